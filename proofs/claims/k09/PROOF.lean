import PyProof.Rows.All
import Wide.All
import OpenK.AllK
import Wide.FinOn
import PySem.Challenge.RW_allboughs_k09_whole_plays_drawn_to_rows
import HandS.ForMost
import HandS.ForExc
import HandS.Lambda
import HandS.Nested
import HandS.IsInst
import HandS.TupAny
import HandS.TupLe
import HandS.TupMul
import HandS.Deep
import HandS.Wide
import HandS.WideMore
import HandS.Text
import HandS.Small
import HandS.Dict
import HandS.SortInts
import HandS.Style
import HandS.Conv
import HandS.Comp
import HandS.DictComp
import HandS.Zip
import HandS.Iter
import HandS.ExcOwn
import HandS.WordsExc
import HandS.ExcValue
import HandS.ExcIs
import HandS.EndTab
import KE.GoesEnum
import HandS.SetFor
import PyProof.ReprRoads
import HandS.Head0
import HandS.Head1
import HandS.Head2
import HandS.HeadHook4
import HandS.NestedK
set_option Elab.async false
set_option linter.all false
set_option maxRecDepth 100000
set_option maxHeartbeats 2000000
/-! S3A: data trees, the store of lists and dicts, how both are told by HandS's abstract heap; readings that follow a function. -/
namespace S3
open PySem PySem.Spec PyProof.Rows L2

/-- data: trees of what never changes, and places of the store -/
inductive D where
  | non
  | bl (b : Bool)
  | int (i : Int)
  | str (x : Str)
  | tup (xs : List D)
  | tcon (xs : List D)
  | lcon (xs : List D)
  | loc (n : Nat)
  | exn (c : Nat)
  | fn (i : Nat)
  | cl (i : Nat)
  | ty (s : String)

/-- what stands at a place of the store -/
inductive O where
  | lst (xs : List D)
  | dK (kvs : List (Key × D))
  | dT (kvs : List (List Key × D))

abbrev Sto := List O
abbrev Env3 := List (Option D)

/-- what is fixed: the program, the written part, where classes and defs stand, the tables of code objects -/
structure Gs where
  P : Program
  w : World
  K : PySem.W.Frag
  mg : Str → Option Value
  base : Heap
  cl : Nat → Addr
  fa : Nat → Addr
  T : List (Addr × Str)

/-- an exception's object of the class at C, held as a value -/
def ExV (C a : Addr) : HO := .ext fun h => ∃ (oe : Obj) (vs : Array Value), h.get? a = some oe ∧ Zc (.ref C) none oe ∧ oe.data = .fields vs

mutual
inductive Rl (g : Gs) (ms : List Addr) (H : Hp) : D → V → Prop
  | non : Rl g ms H .non .non
  | bl (b : Bool) : Rl g ms H (.bl b) (.bl b)
  | int (i : Int) : Rl g ms H (.int i) (.int i)
  | str (x : Str) : Rl g ms H (.str x) (.str x)
  | tup {p : Addr} {vs : List V} {ds : List D} : H p = some (.tup vs) → RlA g ms H ds vs → Rl g ms H (.tup ds) (.ref p)
  | tcon {p : Addr} {vs : List V} {ds : List D} : (∀ H' : Hp, SqT g.K H' p vs ∧ L2.TyX g.K H' (.ref p) (.type "tuple")) → RlA g ms H ds vs → Rl g ms H (.tcon ds) (.ref p)
  | lcon {p : Addr} {vs : List V} {ds : List D} : (∀ H' : Hp, (∀ b o u, H b = some (.frz o u) → H' b = some (.frz o u)) → SqL g.K H' p vs) → RlA g ms H ds vs → Rl g ms H (.lcon ds) (.ref p)
  | loc {n : Nat} {a : Addr} : ms[n]? = some a → Rl g ms H (.loc n) (.ref a)
  | exn {c : Nat} {a : Addr} : H a = some (ExV (g.cl c) a) → Rl g ms H (.exn c) (.ref a)
  | fn (i : Nat) : Rl g ms H (.fn i) (.ref (g.fa i))
  | cl (i : Nat) : Rl g ms H (.cl i) (.ref (g.cl i))
  | ty (s : String) : Rl g ms H (.ty s) (.ty s)
inductive RlA (g : Gs) (ms : List Addr) (H : Hp) : List D → List V → Prop
  | nil : RlA g ms H [] []
  | cons {d : D} {v : V} {ds : List D} {vs : List V} : Rl g ms H d v → RlA g ms H ds vs → RlA g ms H (d :: ds) (v :: vs)
end

/-- what never changes -/
def Fx : HO → Prop
  | .tup _ => True
  | .frz _ _ => True
  | .ext _ => True
  | _ => False
/-- fixed things stay -/
structure Le (H H' : Hp) : Prop where
  fx : ∀ b o, H b = some o → Fx o → H' b = some o
theorem Le.refl (H : Hp) : Le H H := ⟨fun _ _ h _ => h⟩
theorem Le.trans {H H1 H2 : Hp} (a : Le H H1) (b : Le H1 H2) : Le H H2 := ⟨fun c o h f => b.fx c o (a.fx c o h f) f⟩
theorem Le.new {H : Hp} {p : Addr} {o : HO} (h : H p = none) : Le H (upd H p o) := ⟨fun b u e _ => by rw [upd_ne (ne_of_none e h)]; exact e⟩
theorem Le.put {H : Hp} {p : Addr} {o u : HO} (h : H p = some u) (f : ¬ Fx u) : Le H (upd H p o) := ⟨fun b z e q => by
  rw [upd_ne fun x => f (by rw [x, h] at e; cases e; exact q)]
  exact e⟩
theorem Le.sqT {K : PySem.W.Frag} {H H' : Hp} (l : Le H H') {p : Addr} {vs : List V} (h : SqT K H p vs) : SqT K H' p vs := by
  rcases h with (h | ⟨o, h⟩) | h
  · exact .inl (.inl (l.fx _ _ h trivial))
  · exact .inl (.inr ⟨o, l.fx _ _ h trivial⟩)
  · exact .inr h

mutual
theorem Rl.mono {g : Gs} {ms ms' : List Addr} {H H' : Hp} (hm : ms <+: ms') (l : Le H H') : ∀ {d : D} {v : V}, Rl g ms H d v → Rl g ms' H' d v
  | _, _, .non => .non
  | _, _, .bl b => .bl b
  | _, _, .int i => .int i
  | _, _, .str x => .str x
  | _, _, .tup h a => .tup (l.fx _ _ h trivial) (a.mono hm l)
  | _, _, .tcon h a => .tcon h (a.mono hm l)
  | _, _, .lcon h a => .lcon (fun H2 k => h H2 fun b o u e => k b o u (l.fx _ _ e trivial)) (a.mono hm l)
  | _, _, .loc h => .loc (by
      obtain ⟨t, rfl⟩ := hm
      exact List.getElem?_append_left (List.getElem?_eq_some_iff.mp h).1 ▸ h)
  | _, _, .exn h => .exn (l.fx _ _ h trivial)
  | _, _, .fn i => .fn i
  | _, _, .cl i => .cl i
  | _, _, .ty s => .ty s
theorem RlA.mono {g : Gs} {ms ms' : List Addr} {H H' : Hp} (hm : ms <+: ms') (l : Le H H') : ∀ {ds : List D} {vs : List V}, RlA g ms H ds vs → RlA g ms' H' ds vs
  | _, _, .nil => .nil
  | _, _, .cons h a => .cons (h.mono hm l) (a.mono hm l)
end
section
variable {g : Gs} {ms : List Addr} {H : Hp}
theorem RlA.length : ∀ {ds : List D} {vs : List V}, RlA g ms H ds vs → ds.length = vs.length
  | _, _, .nil => rfl
  | _, _, .cons _ a => by rw [List.length_cons, List.length_cons, a.length]
theorem RlA.get : ∀ {ds : List D} {vs : List V} {i : Nat} {d : D}, RlA g ms H ds vs → ds[i]? = some d → ∃ v, vs[i]? = some v ∧ Rl g ms H d v
  | _, _, _, _, .nil, e => by simp at e
  | _, _, 0, _, .cons r _, e => by simp at e; subst e; exact ⟨_, rfl, r⟩
  | _, _, i + 1, d, .cons _ t, e => by
    obtain ⟨u, h1, h2⟩ := RlA.get (i := i) (d := d) t (by simpa using e)
    exact ⟨u, by simpa using h1, h2⟩
theorem RlA.append : ∀ {ds es : List D} {vs us : List V}, RlA g ms H ds vs → RlA g ms H es us → RlA g ms H (ds ++ es) (vs ++ us)
  | _, _, _, _, .nil, s => s
  | _, _, _, _, .cons r t, s => .cons r (RlA.append t s)
theorem RlA.take : ∀ {ds : List D} {vs : List V} (n : Nat), RlA g ms H ds vs → RlA g ms H (ds.take n) (vs.take n)
  | _, _, 0, _ => .nil
  | _, _, _ + 1, .nil => .nil
  | _, _, n + 1, .cons r t => .cons r (RlA.take n t)
theorem RlA.drop : ∀ {ds : List D} {vs : List V} (n : Nat), RlA g ms H ds vs → RlA g ms H (ds.drop n) (vs.drop n)
  | _, _, 0, r => r
  | _, _, _ + 1, .nil => .nil
  | _, _, n + 1, .cons _ t => RlA.drop n t
theorem RlA.set {d : D} {v : V} (r : Rl g ms H d v) : ∀ {ds : List D} {vs : List V} (i : Nat), RlA g ms H ds vs → RlA g ms H (ds.set i d) (vs.set i v)
  | _, _, _, .nil => .nil
  | _, _, 0, .cons _ t => .cons r t
  | _, _, i + 1, .cons q t => .cons q (RlA.set r i t)
theorem RlA.eraseIdx : ∀ {ds : List D} {vs : List V} (i : Nat), RlA g ms H ds vs → RlA g ms H (ds.eraseIdx i) (vs.eraseIdx i)
  | _, _, _, .nil => .nil
  | _, _, 0, .cons _ t => t
  | _, _, i + 1, .cons q t => .cons q (RlA.eraseIdx i t)
theorem RlA.reverse {ds : List D} {vs : List V} (r : RlA g ms H ds vs) : RlA g ms H ds.reverse vs.reverse := by
  induction r using RlA.rec (motive_1 := fun _ _ _ => True) with
  | nil => exact .nil
  | cons h a _ ih =>
    rw [List.reverse_cons, List.reverse_cons]
    exact ih.append (.cons h .nil)
  | _ => trivial
theorem RlA.one {d : D} {v : V} (r : Rl g ms H d v) : RlA g ms H [d] [v] := .cons r .nil
end

/-! ### the store -/
def RKv (g : Gs) (ms : List Addr) (H : Hp) {κ : Type} : List (κ × D) → List (κ × V) → Prop := Paired fun (p : κ × D) (q : κ × V) => p.1 = q.1 ∧ Rl g ms H p.2 q.2
def Ro (g : Gs) (ms : List Addr) (H : Hp) (a : Addr) : O → Prop
  | .lst ds => ∃ vs, H a = some (.lst vs) ∧ RlA g ms H ds vs
  | .dK kvs => ∃ vs, H a = some (.dK vs) ∧ RKv g ms H kvs vs
  | .dT kvs => ∃ vs, H a = some (.dT vs) ∧ RKv g ms H kvs vs
structure Rs (g : Gs) (ms : List Addr) (H : Hp) (st : Sto) : Prop where
  len : ms.length = st.length
  nd : ms.Nodup
  at_ : ∀ (n : Nat) (o : O) (a : Addr), st[n]? = some o → ms[n]? = some a → Ro g ms H a o
  tabs : LamX.Tabs g.T H
/-- what stood stands -/
structure Fw (ms : List Addr) (H : Hp) (ms' : List Addr) (H' : Hp) : Prop where
  ms : ms <+: ms'
  le : Le H H'
theorem Fw.refl (ms : List Addr) (H : Hp) : Fw ms H ms H := ⟨List.prefix_rfl, Le.refl H⟩
theorem Fw.trans {ms ms1 ms2 : List Addr} {H H1 H2 : Hp} (a : Fw ms H ms1 H1) (b : Fw ms1 H1 ms2 H2) : Fw ms H ms2 H2 := ⟨a.ms.trans b.ms, a.le.trans b.le⟩
theorem Fw.rl {g : Gs} {ms ms' : List Addr} {H H' : Hp} (f : Fw ms H ms' H') {d : D} {v : V} (r : Rl g ms H d v) : Rl g ms' H' d v := r.mono f.ms f.le
theorem Fw.rlA {g : Gs} {ms ms' : List Addr} {H H' : Hp} (f : Fw ms H ms' H') {d : List D} {v : List V} (r : RlA g ms H d v) : RlA g ms' H' d v := r.mono f.ms f.le
theorem RKv.mono {g : Gs} {ms ms' : List Addr} {H H' : Hp} (f : Fw ms H ms' H') {κ : Type} {ks : List (κ × D)} {vs : List (κ × V)} (r : RKv g ms H ks vs) : RKv g ms' H' ks vs := Paired.mapP r fun _ _ z => ⟨z.1, f.rl z.2⟩
/-- the slots -/
structure Re (g : Gs) (ms : List Addr) (H : Hp) (env : Env3) (σ : L2.St) : Prop where
  len : env.length = σ.length
  at_ : ∀ (i : Nat) (d : D), env[i]? = some (some d) → ∃ v : V, σ[i]? = some (some v) ∧ Rl g ms H d v
theorem Re.mono {g : Gs} {ms ms' : List Addr} {H H' : Hp} (f : Fw ms H ms' H') {env : Env3} {σ : L2.St} (r : Re g ms H env σ) : Re g ms' H' env σ := ⟨r.len, fun i d e => by
  obtain ⟨v, h1, h2⟩ := r.at_ i d e
  exact ⟨v, h1, f.rl h2⟩⟩
theorem Re.set {g : Gs} {ms : List Addr} {H : Hp} {env : Env3} {σ : L2.St} (r : Re g ms H env σ) (i : Nat) {d : D} {v : V} (q : Rl g ms H d v) : Re g ms H (env.set i (some d)) (σ.set i (some v)) := ⟨by simp [r.len], fun j e h => by
  by_cases hj : i = j
  · subst hj
    by_cases hl : i < env.length
    · rw [List.getElem?_set_self hl] at h
      cases h
      exact ⟨v, List.getElem?_set_self (by rw [← r.len]; exact hl), q⟩
    · rw [List.getElem?_eq_none (by simpa using hl)] at h
      cases h
  · rw [List.getElem?_set_ne hj] at h
    obtain ⟨u, h1, h2⟩ := r.at_ j e h
    exact ⟨u, by rw [List.getElem?_set_ne hj]; exact h1, h2⟩⟩

/-! ### steps of the abstract heap -/
section
variable {g : Gs} {ms : List Addr} {H : Hp} {st : Sto}
theorem Ro.mono {ms' : List Addr} {H' : Hp} (f : Fw ms H ms' H') {a : Addr} {o : O} (e : H' a = H a) (r : Ro g ms H a o) : Ro g ms' H' a o := by
  cases o with
  | lst ds =>
    obtain ⟨vs, h1, h2⟩ := r
    exact ⟨vs, e.trans h1, f.rlA h2⟩
  | dK kvs =>
    obtain ⟨vs, h1, h2⟩ := r
    exact ⟨vs, e.trans h1, h2.mono f⟩
  | dT kvs =>
    obtain ⟨vs, h1, h2⟩ := r
    exact ⟨vs, e.trans h1, h2.mono f⟩
theorem Ro.some {a : Addr} {o : O} (r : Ro g ms H a o) : ∃ u, H a = some u ∧ ¬ Fx u ∧ (∀ ps, u ≠ .tbl ps) ∧ Mut (some u) := by
  cases o with
  | lst ds =>
    obtain ⟨vs, h1, h2⟩ := r
    exact ⟨_, h1, id, fun _ z => (by cases z), trivial⟩
  | dK kvs =>
    obtain ⟨vs, h1, h2⟩ := r
    exact ⟨_, h1, id, fun _ z => (by cases z), trivial⟩
  | dT kvs =>
    obtain ⟨vs, h1, h2⟩ := r
    exact ⟨_, h1, id, fun _ z => (by cases z), trivial⟩
theorem tabs_upd {T : List (Addr × Str)} {p : Addr} {o : HO} (t : LamX.Tabs T H) (h : H p = none ∨ ∃ u, H p = some u ∧ ¬ Fx u ∧ ∀ ps, u ≠ .tbl ps) : LamX.Tabs T (upd H p o) := fun q hq => by
  obtain ⟨ps, h1, h2, h3⟩ := t q hq
  have ne : ∀ b u, H b = some u → (Fx u ∨ ∃ ps, u = .tbl ps) → b ≠ p := fun b u e z x => by
    subst x
    rcases h with h | ⟨y, h, n1, n2⟩
    · rw [h] at e
      cases e
    · rw [h] at e
      cases e
      rcases z with z | ⟨ps, z⟩
      · exact n1 z
      · exact n2 ps z
  refine ⟨ps, by rw [upd_ne (ne _ _ h1 (.inr ⟨ps, rfl⟩))]; exact h1, h2, fun pos cv hc => ?_⟩
  obtain ⟨c, e1, e2⟩ := h3 pos cv hc
  exact ⟨c, e1, by rw [upd_ne (ne _ _ e2 (.inl trivial))]; exact e2⟩
/-- a fixed thing is laid anew -/
theorem Rs.fresh {p : Addr} {o : HO} (r : Rs g ms H st) (h : H p = none) : Fw ms H ms (upd H p o) ∧ Rs g ms (upd H p o) st := by
  have f : Fw ms H ms (upd H p o) := ⟨List.prefix_rfl, Le.new h⟩
  refine ⟨f, r.len, r.nd, fun n u a e1 e2 => ?_, tabs_upd r.tabs (.inl h)⟩
  have q := r.at_ n u a e1 e2
  obtain ⟨z, hz, _⟩ := q.some
  exact q.mono f (upd_ne (ne_of_none hz h))
/-- a thing of the store is laid anew -/
theorem Rs.alloc {p : Addr} {o : HO} {u : O} (r : Rs g ms H st) (h : H p = none) (q : ∀ {ms' H'}, Fw ms H ms' H' → H' p = some o → Ro g ms' H' p u) : Fw ms H (ms ++ [p]) (upd H p o) ∧ Rs g (ms ++ [p]) (upd H p o) (st ++ [u]) ∧ Rl g (ms ++ [p]) (upd H p o) (.loc st.length) (.ref p) := by
  have f : Fw ms H (ms ++ [p]) (upd H p o) := ⟨List.prefix_append _ _, Le.new h⟩
  have pn : p ∉ ms := fun z => by
    obtain ⟨n, hn, e⟩ := List.mem_iff_getElem.mp z
    have hl : n < st.length := by rw [← r.len]; exact hn
    obtain ⟨y, hy, _⟩ := (r.at_ n st[n] p (List.getElem?_eq_getElem hl) (by rw [List.getElem?_eq_getElem hn, e])).some
    rw [h] at hy
    cases hy
  refine ⟨f, ⟨by simp [r.len], ?_, fun n v a e1 e2 => ?_, tabs_upd r.tabs (.inl h)⟩, .loc (by rw [← r.len]; simp)⟩
  · rw [List.nodup_append]
    exact ⟨r.nd, by simp, fun a ha b hb => by simp at hb; subst hb; exact fun z => pn (z ▸ ha)⟩
  · by_cases hn : n < st.length
    · rw [List.getElem?_append_left hn] at e1
      rw [List.getElem?_append_left (by rw [r.len]; exact hn)] at e2
      have z := r.at_ n v a e1 e2
      obtain ⟨y, hy, _⟩ := z.some
      exact z.mono f (upd_ne (ne_of_none hy h))
    · have hn' : st.length ≤ n := Nat.le_of_not_lt hn
      rw [List.getElem?_append_right hn'] at e1
      rw [List.getElem?_append_right (by rw [r.len]; exact hn'), r.len] at e2
      cases k : n - st.length with
      | zero =>
        rw [k] at e1 e2
        simp at e1 e2
        subst e1 e2
        exact q f upd_same
      | succ m =>
        rw [k] at e1
        simp at e1
/-- a thing of the store is written -/
theorem Rs.put {n : Nat} {p : Addr} {o : HO} {u0 u : O} (r : Rs g ms H st) (e0 : st[n]? = some u0) (hp : ms[n]? = some p) (q : ∀ {ms' H'}, Fw ms H ms' H' → H' p = some o → Ro g ms' H' p u) : Fw ms H ms (upd H p o) ∧ Rs g ms (upd H p o) (st.set n u) := by
  obtain ⟨y, hy, ny, nt, _⟩ := (r.at_ n u0 p e0 hp).some
  have f : Fw ms H ms (upd H p o) := ⟨List.prefix_rfl, Le.put hy ny⟩
  refine ⟨f, by simp [r.len], r.nd, fun m v a e1 e2 => ?_, tabs_upd r.tabs (.inr ⟨y, hy, ny, nt⟩)⟩
  by_cases hm : n = m
  · subst hm
    rw [List.getElem?_set_self (List.getElem?_eq_some_iff.mp e0).1] at e1
    cases e1
    rw [hp] at e2
    cases e2
    exact q f upd_same
  · rw [List.getElem?_set_ne hm] at e1
    have z := r.at_ m v a e1 e2
    refine z.mono f (upd_ne fun x => hm ?_)
    subst x
    obtain ⟨h1, k1⟩ := List.getElem?_eq_some_iff.mp hp
    obtain ⟨h2, k2⟩ := List.getElem?_eq_some_iff.mp e2
    exact (List.getElem_inj r.nd).mp (k1.trans k2.symm)
end

/-! ### readings that follow a function -/
inductive R3 (α : Type) where
  | ok (a : α)
  | er (c : Nat)
abbrev F3 (α : Type) := Env3 → Sto → Option (R3 α × Sto)
def bnd {α β : Type} (f : F3 α) (k : α → F3 β) : F3 β := fun env st => match f env st with
  | some (.ok a, st1) => k a env st1
  | some (.er c, st1) => some (.er c, st1)
  | none => none
/-- the end of a reading, by what the function gives -/
def Out (g : Gs) (E : XK) {α β : Type} (rel : List Addr → Hp → α → β → Prop) (r : R3 α) (Q : β → Hp → Prop) (ms' : List Addr) (H' : Hp) : Prop := match r with
  | .ok a => ∀ b, rel ms' H' a b → Q b H'
  | .er c => E (.ref (g.cl c)) none H'
def Rd (g : Gs) (E : XK) {α β : Type} (rel : List Addr → Hp → α → β → Prop) (t : L2.St → Hp → (β → Hp → Prop) → Prop) (f : F3 α) : Prop :=
  ∀ env st r st', f env st = some (r, st') → ∀ ms σ H, Rs g ms H st → Re g ms H env σ → ∀ Q : β → Hp → Prop,
    (∀ ms' H', Fw ms H ms' H' → Rs g ms' H' st' → Out g E rel r Q ms' H') → t σ H Q
/-- one after another -/
theorem Rd.bind {g : Gs} {E : XK} {α β γ : Type} {rel : List Addr → Hp → α → β → Prop} {t : L2.St → Hp → (β → Hp → Prop) → Prop} {f : F3 α} {k : α → F3 γ} {env : Env3} {st st' : Sto} {r : R3 γ} {ms : List Addr} {σ : L2.St} {H : Hp} {Q : β → Hp → Prop}
    (h : Rd g E rel t f) (e : bnd f k env st = some (r, st')) (rs : Rs g ms H st) (re : Re g ms H env σ)
    (ho : ∀ a st1 ms1 H1, Fw ms H ms1 H1 → Rs g ms1 H1 st1 → Re g ms1 H1 env σ → k a env st1 = some (r, st') → ∀ b, rel ms1 H1 a b → Q b H1)
    (he : ∀ c ms1 H1, r = .er c → Fw ms H ms1 H1 → Rs g ms1 H1 st' → E (.ref (g.cl c)) none H1) : t σ H Q := by
  unfold bnd at e
  split at e
  · rename_i a st1 hf
    exact h env st (.ok a) st1 hf ms σ H rs re Q fun ms1 H1 fw rs1 b hb => ho a st1 ms1 H1 fw rs1 (re.mono fw) e b hb
  · rename_i c st1 hf
    cases e
    exact h env st (.er c) _ hf ms σ H rs re Q fun ms1 H1 fw rs1 => he c ms1 H1 rfl fw rs1
  · cases e
end S3

set_option maxHeartbeats 2000000
/-! S3B: contexts; expressions that follow a function: names, constants, operators. -/
namespace S3
open PySem PySem.Spec PyProof.Rows L2

/-- what is known of a def's (or a block's) context -/
structure Cxt where
  g : Gs
  N : List Str
  sc : Scope
  k : Nat
  E : XK
  own : Str → Bool
  gd : Bool := false
  lam : Option (Addr × Str) := none
structure OkX (c : Cxt) (X : Cx) : Prop where
  prog : X.prog = c.g.P
  w : X.w = c.g.w
  K : X.K = c.g.K
  mg : X.mg = c.g.mg
  base : X.base = c.g.base
  N : X.N = c.N
  sc : X.env.scope = c.sc
  calm : X.calm = true
  room : Room c.k X.A
  guards : c.gd = true → X.A.guards = some []
  lamb : ∀ u q, c.lam = some (u, q) → X.env.code = .ref u ∧ X.env.qual = q
  nd : c.N.Nodup
  fn : ∀ x, c.own x = true → X.fn x = true
  po : PassesOwn (model X.prog X.w) X.A X.env X.xe
  tk : Takes X (fun cls d _ H => c.E cls d H)

theorem OkX.pass {c : Cxt} {X : Cx} (o : OkX c X) : Passes (L2.CX X.prog X.w) X c.E := passes_call o.tk fun _ _ _ _ h => h
abbrev RelB (_ : List Addr) (_ : Hp) (a b : Bool) : Prop := a = b
def SimE (c : Cxt) (e : Expr) (f : F3 D) : Prop := ∃ t : TE, (∀ X, OkX c X → PE X e t) ∧ Rd c.g c.E (Rl c.g) t f
def SimT (c : Cxt) (e : Expr) (f : F3 Bool) : Prop := ∃ t : TT, (∀ X, OkX c X → PT X e t) ∧ Rd c.g c.E RelB t f
def SimA (c : Cxt) (es : List Expr) (f : F3 (List D)) : Prop := ∃ t : TA, (∀ X, OkX c X → PA X es t) ∧ Rd c.g c.E (RlA c.g) t f

/-! ### the functions -/
def ret3 {α : Type} (a : α) : F3 α := fun _ st => some (.ok a, st)
def fVar (i : Nat) : F3 D := fun env st => match env[i]? with
  | some (some d) => some (.ok d, st)
  | _ => none
/-- an operation that raises nothing -/
abbrev F1 (α β : Type) := α → Sto → Option (β × Sto)
def lift {α β : Type} (o : F1 α β) (a : α) : F3 β := fun _ st => match o a st with
  | some (b, st') => some (.ok b, st')
  | none => none
def fU (o : F1 D D) (fa : F3 D) : F3 D := bnd fa (lift o)
def fB (o : F1 (D × D) D) (fa fb : F3 D) : F3 D := bnd fa fun x => bnd fb fun y => lift o (x, y)
def fArgs (o : F1 (List D) D) (fa : F3 (List D)) : F3 D := bnd fa (lift o)
def fNil : F3 (List D) := ret3 []
def fCons (fa : F3 D) (fr : F3 (List D)) : F3 (List D) := bnd fa fun x => bnd fr fun xs => ret3 (x :: xs)

/-! ### soundness of an operation's rule -/
/-- r, a rule by values, follows o -/
def OpS (g : Gs) {α β V1 V2 : Type} (ra : List Addr → Hp → α → V1 → Prop) (rb : List Addr → Hp → β → V2 → Prop) (r : V1 → Hp → (V2 → Hp → Prop) → Prop) (o : F1 α β) : Prop :=
  ∀ x st z st', o x st = some (z, st') → ∀ ms H v, Rs g ms H st → ra ms H x v → ∀ Q : V2 → Hp → Prop,
    (∀ ms' H' u, Fw ms H ms' H' → Rs g ms' H' st' → rb ms' H' z u → Q u H') → r v H Q
abbrev Rl2 (g : Gs) (ms : List Addr) (H : Hp) (p : D × D) (q : V × V) : Prop := Rl g ms H p.1 q.1 ∧ Rl g ms H p.2 q.2
theorem out_er {g : Gs} {E : XK} {α β : Type} {rel : List Addr → Hp → α → β → Prop} {r : R3 α} {Q : β → Hp → Prop} {ms : List Addr} {H : Hp} {ms' : List Addr} {H' : Hp} {st' : Sto}
    (h : ∀ ms' H', Fw ms H ms' H' → Rs g ms' H' st' → Out g E rel r Q ms' H') {c : Nat} (e : r = .er c) (fw : Fw ms H ms' H') (rs : Rs g ms' H' st') : E (.ref (g.cl c)) none H' := by
  subst e
  exact h ms' H' fw rs
theorem Rd.op1 {g : Gs} {E : XK} {α β V1 V2 : Type} {ra : List Addr → Hp → α → V1 → Prop} {rb : List Addr → Hp → β → V2 → Prop} {ta : L2.St → Hp → (V1 → Hp → Prop) → Prop} {fa : F3 α} {r : V1 → Hp → (V2 → Hp → Prop) → Prop} {o : F1 α β}
    (ha : Rd g E ra ta fa) (ho : OpS g ra rb r o) : Rd g E rb (fun σ H Q => ta σ H fun x H1 => r x H1 Q) (bnd fa (lift o)) := by
  intro env st rr st' e ms σ H rs re Q h
  refine ha.bind e rs re (fun a st1 ms1 H1 fw rs1 re1 e1 b hb => ?_) fun c ms1 H1 er fw rs1 => out_er h er fw rs1
  unfold lift at e1
  split at e1
  · rename_i z st2 hz
    cases e1
    exact ho a st1 z st' hz ms1 H1 b rs1 hb Q fun ms2 H2 u fw2 rs2 hu => h ms2 H2 (fw.trans fw2) rs2 u hu
  · cases e1
theorem Rd.op2 {g : Gs} {E : XK} {ta tb : TE} {fa fb : F3 D} {r : R2} {o : F1 (D × D) D} (ha : Rd g E (Rl g) ta fa) (hb : Rd g E (Rl g) tb fb) (ho : OpS g (Rl2 g) (Rl g) (fun p H Q => r p.1 p.2 H Q) o) : Rd g E (Rl g) (tOp r ta tb) (fB o fa fb) := by
  intro env st rr st' e ms σ H rs re Q h
  refine ha.bind e rs re (fun a st1 ms1 H1 fw rs1 re1 e1 va hva => ?_) fun c ms1 H1 er fw rs1 => out_er h er fw rs1
  refine hb.bind e1 rs1 re1 (fun b st2 ms2 H2 fw2 rs2 re2 e2 vb hvb => ?_) fun c ms2 H2 er fw2 rs2 => out_er h er (fw.trans fw2) rs2
  unfold lift at e2
  split at e2
  · rename_i z st3 hz
    cases e2
    exact ho (a, b) st2 z st' hz ms2 H2 (va, vb) rs2 ⟨fw2.rl hva, hvb⟩ Q fun ms3 H3 u fw3 rs3 hu => h ms3 H3 ((fw.trans fw2).trans fw3) rs3 u hu
  · cases e2
/-- a value where nothing is done -/
theorem Rd.ret {g : Gs} {E : XK} {α β : Type} {rel : List Addr → Hp → α → β → Prop} {a : α} {b : β} (h : ∀ ms H, rel ms H a b) (hu : ∀ ms H b', rel ms H a b' → b' = b) : Rd g E rel (fun _ H Q => Q b H) (ret3 a) := by
  intro env st rr st' e ms σ H rs re Q hq
  cases e
  exact hq ms H (Fw.refl ms H) rs b (h ms H)

section
variable {c : Cxt} {a b e : Expr} {es : List Expr} {fa fb : F3 D} {pos : Pos}

/-! ### names, constants -/
def visB (sc : Scope) (x : Str) : Bool := match sc.names.lookup x with
  | some .local => true
  | some .cell => true
  | some .free => true
  | _ => false
theorem visB_ok {sc : Scope} {x : Str} (h : visB sc x = true) : Vis sc x := by
  unfold visB at h
  unfold Vis
  split at h <;> simp_all
theorem simE_var (i : Nat) {x : Str} (hN : c.N[i]? = some x) (hv : visB c.sc x = true) (hd : (x == ("__debug__" : Str)) = false := by decide +kernel) (hcd : (x == ("__classdict__" : Str)) = false := by decide +kernel) : SimE c (.Name x pos) (fVar i) := by
  refine ⟨tVar i, fun X o => pe_var (by rw [o.N]; exact hN) (by rw [o.sc]; exact visB_ok hv) hd hcd, ?_⟩
  intro env st r st' e ms σ H rs re Q h
  unfold fVar at e
  split at e
  · rename_i d hd'
    cases e
    obtain ⟨v, h1, h2⟩ := re.at_ i d hd'
    exact ⟨v, h1, h ms H (Fw.refl ms H) rs v h2⟩
  · cases e
theorem simE_int {i : Int} {j : Nat} : SimE c (.Constant (.int i) j pos) (ret3 (.int i)) :=
  ⟨tC (.int i), fun X o => pe_int, Rd.ret (fun _ _ => .int i) fun _ _ _ h => by cases h; rfl⟩
theorem simE_bl {i : Bool} {j : Nat} : SimE c (.Constant (.bool i) j pos) (ret3 (.bl i)) :=
  ⟨tC (.bl i), fun X o => pe_bl, Rd.ret (fun _ _ => .bl i) fun _ _ _ h => by cases h; rfl⟩
theorem simE_str {i : Str} {j : Nat} : SimE c (.Constant (.str i) j pos) (ret3 (.str i)) :=
  ⟨tC (.str i), fun X o => pe_str, Rd.ret (fun _ _ => .str i) fun _ _ _ h => by cases h; rfl⟩
theorem simE_non {j : Nat} : SimE c (.Constant .none j pos) (ret3 .non) :=
  ⟨tC .non, fun X o => pe_non, Rd.ret (fun _ _ => .non) fun _ _ _ h => by cases h; rfl⟩
/-- a global name -/
def glB (sc : Scope) (x : Str) : Bool := decide (sc.names.lookup x = some .globalImplicit) && !(x == ("__debug__" : Str))
theorem OkX.gl {X : Cx} (o : OkX c X) {x : Str} (h : glB c.sc x = true) : Gl X x := by
  unfold glB at h
  simp only [Bool.and_eq_true, decide_eq_true_eq] at h
  show X.env.scope.names.lookup x = _
  rw [o.sc]
  exact h.1
theorem glB_nd {sc : Scope} {x : Str} (h : glB sc x = true) : (x == ("__debug__" : Str)) = false := by
  unfold glB at h
  simp only [Bool.and_eq_true, Bool.not_eq_true'] at h
  exact h.2
/-- a module's constant, a def, a class, as a value -/
theorem simE_glob {x : Str} {d : D} {v : V} {u : Value} (hg : glB c.sc x = true) (hm : c.g.mg x = some u) (r : RelV v u) (hd : ∀ ms H, Rl c.g ms H d v) : SimE c (.Name x pos) (ret3 d) := by
  refine ⟨tC v, fun X o => pe_glob (o.gl hg) (by rw [o.mg]; exact hm) r (glB_nd hg), ?_⟩
  intro env st rr st' e ms σ H rs re Q hq
  cases e
  exact hq ms H (Fw.refl ms H) rs v (hd ms H)
theorem simE_ty {x : Str} {T : String} (hg : glB c.sc x = true) (hm : c.g.mg x = none) (hv : bootBuiltins x = some (.type T)) (hn : x ≠ "__name__" := by decide +kernel) : SimE c (.Name x pos) (ret3 (.ty T)) := by
  refine ⟨tC (.ty T), fun X o => pe_bltn (o.gl hg) (by rw [o.mg]; exact hm) hv rfl hn (glB_nd hg), ?_⟩
  intro env st rr st' e ms σ H rs re Q hq
  cases e
  exact hq ms H (Fw.refl ms H) rs _ (.ty T)

/-! ### operators -/
theorem simE_bin {op : Operator} {r : R2} {o : F1 (D × D) D} (hr : ∀ X, OkX c X → OpR X (binaryOp op) r) (ho : OpS c.g (Rl2 c.g) (Rl c.g) (fun p H Q => r p.1 p.2 H Q) o) (ha : SimE c a fa) (hb : SimE c b fb) : SimE c (.BinOp a op b pos) (fB o fa fb) := by
  obtain ⟨ta, pa, ra⟩ := ha
  obtain ⟨tb, pb, rb⟩ := hb
  exact ⟨tOp r ta tb, fun X ok => pe_op (hr X ok) (pa X ok) (pb X ok), ra.op2 rb ho⟩
theorem simE_cmp {op : CmpOp} {r : R2} {o : F1 (D × D) D} (hr : ∀ X, OkX c X → OpR X (compareOp op) r) (ho : OpS c.g (Rl2 c.g) (Rl c.g) (fun p H Q => r p.1 p.2 H Q) o) (ha : SimE c a fa) (hb : SimE c b fb) (hm : behindInMarks op b = false) : SimE c (.Compare a [op] [b] pos) (fB o fa fb) := by
  obtain ⟨ta, pa, ra⟩ := ha
  obtain ⟨tb, pb, rb⟩ := hb
  exact ⟨tOp r ta tb, fun X ok => pe_cmpR (hr X ok) (pa X ok) (pb X ok) hm, ra.op2 rb ho⟩
/-- a value that is a bool -/
def asB (d : D) : F3 Bool := fun _ st => match d with
  | .bl b => some (.ok b, st)
  | _ => none
theorem Rd.test {g : Gs} {E : XK} {t : TE} {f : F3 D} (h : Rd g E (Rl g) t f) : Rd g E RelB (tTest t) (bnd f asB) := by
  intro env st rr st' e ms σ H rs re Q hq
  refine h.bind e rs re (fun a st1 ms1 H1 fw rs1 re1 e1 v hv => ?_) fun c ms1 H1 er fw rs1 => out_er hq er fw rs1
  unfold asB at e1
  split at e1
  · cases e1
    cases hv
    exact ⟨_, rfl, hq ms1 H1 fw rs1 _ rfl⟩
  · cases e1
theorem simT_cmp {op : CmpOp} {r : R2} {o : F1 (D × D) D} (hr : ∀ X, OkX c X → OpR X (compareOp op) r) (ho : OpS c.g (Rl2 c.g) (Rl c.g) (fun p H Q => r p.1 p.2 H Q) o) (ha : SimE c a fa) (hb : SimE c b fb) (hm : behindInMarks op b = false) : SimT c (.Compare a [op] [b] pos) (bnd (fB o fa fb) asB) := by
  obtain ⟨ta, pa, ra⟩ := ha
  obtain ⟨tb, pb, rb⟩ := hb
  exact ⟨tTest (tOp r ta tb), fun X ok => pt_cmpR (hr X ok) (pa X ok) (pb X ok) hm, (ra.op2 rb ho).test⟩

/-! ### lists of expressions, displays -/
theorem simA_nil : SimA c [] fNil := ⟨tNil, fun X o => pa_nil, Rd.ret (fun _ _ => .nil) fun _ _ _ h => by cases h; rfl⟩
def plainE (e : Expr) : Bool := match e with
  | .Starred _ _ => false
  | _ => true
theorem starEach_plain {e : Expr} {es : List Expr} {env : Env} (h : plainE e = true) : starEach (e :: es) env = (false, eval e env) :: starEach es env := by
  unfold plainE at h
  split at h
  · cases h
  · cases e <;> first | rfl | (rename_i x; exact absurd rfl (x _ _))
theorem Rd.cons {g : Gs} {E : XK} {te : TE} {ta : TA} {fe : F3 D} {fr : F3 (List D)} (h : Rd g E (Rl g) te fe) (h2 : Rd g E (RlA g) ta fr) : Rd g E (RlA g) (tCons te ta) (fCons fe fr) := by
  intro env st rr st' e ms σ H rs re Q hq
  refine h.bind e rs re (fun x st1 ms1 H1 fw rs1 re1 e1 v hv => ?_) fun c ms1 H1 er fw rs1 => out_er hq er fw rs1
  refine h2.bind e1 rs1 re1 (fun y st2 ms2 H2 fw2 rs2 re2 e2 us hus => ?_) fun c ms2 H2 er fw2 rs2 => out_er hq er (fw.trans fw2) rs2
  cases e2
  exact hq ms2 H2 (fw.trans fw2) rs2 (v :: us) (.cons (fw2.rl hv) hus)
theorem simA_cons {fr : F3 (List D)} (he : SimE c e fa) (hr : SimA c es fr) (hp : plainE e = true := by rfl) : SimA c (e :: es) (fCons fa fr) := by
  obtain ⟨te, pe, re⟩ := he
  obtain ⟨ta, pa, ra⟩ := hr
  exact ⟨tCons te ta, fun X o => pa_cons (pe X o) (pa X o) (starEach_plain hp), re.cons ra⟩
def oTup : F1 (List D) D := fun ds st => if ds.length ≤ sizeLine then some (.tup ds, st) else none
def oLst : F1 (List D) D := fun ds st => if ds.length ≤ sizeLine then some (.loc st.length, st ++ [.lst ds]) else none
theorem opS_tup {g : Gs} : OpS g (RlA g) (Rl g) (fun xs H Q => xs.length ≤ sizeLine ∧ ∀ p, H p = none → Q (.ref p) (upd H p (.tup xs))) oTup := by
  intro ds st z st' e ms H vs rs hv Q h
  unfold oTup at e
  split at e
  · rename_i hl
    cases e
    refine ⟨by rw [← hv.length]; exact hl, fun p hp => ?_⟩
    obtain ⟨fw, rs2⟩ := rs.fresh (o := .tup vs) hp
    exact h ms _ _ fw rs2 (.tup upd_same (fw.rlA hv))
  · cases e
theorem opS_lst {g : Gs} : OpS g (RlA g) (Rl g) (fun xs H Q => xs.length ≤ sizeLine ∧ ∀ p, H p = none → Q (.ref p) (upd H p (.lst xs))) oLst := by
  intro ds st z st' e ms H vs rs hv Q h
  unfold oLst at e
  split at e
  · rename_i hl
    cases e
    refine ⟨by rw [← hv.length]; exact hl, fun p hp => ?_⟩
    obtain ⟨fw, rs2, q⟩ := rs.alloc (o := .lst vs) (u := .lst ds) hp fun f e => ⟨vs, e, f.rlA hv⟩
    exact h _ _ _ fw rs2 q
  · cases e
theorem simE_tup {fr : F3 (List D)} {x1} (h : SimA c es fr) : SimE c (.Tuple es x1 pos) (fArgs oTup fr) := by
  obtain ⟨ta, pa, ra⟩ := h
  exact ⟨tTup ta, fun X o => pe_tup (pa X o), ra.op1 opS_tup⟩
theorem simE_lst {fr : F3 (List D)} (h : SimA c es fr) : SimE c (.List es pos) (fArgs oLst fr) := by
  obtain ⟨ta, pa, ra⟩ := h
  exact ⟨tLst ta, fun X o => pe_lst (pa X o), ra.op1 opS_lst⟩
end
end S3

set_option maxHeartbeats 2000000
/-! S3C: what operators do, on data. -/
namespace S3
open PySem PySem.Spec PyProof.Rows L2

/-! ### reading sequences, scalars, nested data -/
def seqL (st : Sto) : D → Option (List D)
  | .lcon ds => some ds
  | .loc n => match st[n]? with
    | some (.lst ds) => some ds
    | _ => none
  | _ => none
def seqT : D → Option (List D)
  | .tup ds => some ds
  | .tcon ds => some ds
  | _ => none
def seqA (st : Sto) (d : D) : Option (List D) := match seqT d with
  | some ds => some ds
  | none => seqL st d
theorem seqL_ok {g : Gs} {ms : List Addr} {H : Hp} {st : Sto} {d : D} {ds : List D} {v : V} (rs : Rs g ms H st) (r : Rl g ms H d v) (h : seqL st d = some ds) : ∃ p vs, v = .ref p ∧ SqL g.K H p vs ∧ RlA g ms H ds vs := by
  unfold seqL at h
  split at h
  · cases h
    cases r with
    | lcon h a => exact ⟨_, _, rfl, h H fun _ _ _ e => e, a⟩
  · split at h
    · rename_i e
      cases h
      cases r with
      | loc hm =>
        obtain ⟨vs, h1, h2⟩ := rs.at_ _ _ _ e hm
        exact ⟨_, vs, rfl, .inl (.inl h1), h2⟩
    · cases h
  · cases h
theorem seqT_ok {g : Gs} {ms : List Addr} {H : Hp} {d : D} {ds : List D} {v : V} (r : Rl g ms H d v) (h : seqT d = some ds) : ∃ p vs, v = .ref p ∧ SqT g.K H p vs ∧ RlA g ms H ds vs := by
  unfold seqT at h
  split at h
  · cases h
    cases r with
    | tup h a => exact ⟨_, _, rfl, .inl (.inl h), a⟩
  · cases h
    cases r with
    | tcon h a => exact ⟨_, _, rfl, (h H).1, a⟩
  · cases h
theorem seqA_ok {g : Gs} {ms : List Addr} {H : Hp} {st : Sto} {d : D} {ds : List D} {v : V} (rs : Rs g ms H st) (r : Rl g ms H d v) (h : seqA st d = some ds) : ∃ p vs, v = .ref p ∧ (SqL g.K H p vs ∨ SqT g.K H p vs) ∧ RlA g ms H ds vs := by
  unfold seqA at h
  split at h
  · rename_i e
    cases h
    obtain ⟨p, vs, h1, h2, h3⟩ := seqT_ok r e
    exact ⟨p, vs, h1, .inr h2, h3⟩
  · obtain ⟨p, vs, h1, h2, h3⟩ := seqL_ok rs r h
    exact ⟨p, vs, h1, .inl h2, h3⟩
/-- a list of the store -/
def ownL (st : Sto) : D → Option (Nat × List D)
  | .loc n => match st[n]? with
    | some (.lst ds) => some (n, ds)
    | _ => none
  | _ => none
theorem ownL_ok {g : Gs} {ms : List Addr} {H : Hp} {st : Sto} {d : D} {n : Nat} {ds : List D} {v : V} (rs : Rs g ms H st) (r : Rl g ms H d v) (h : ownL st d = some (n, ds)) : st[n]? = some (.lst ds) ∧ ∃ p vs, v = .ref p ∧ ms[n]? = some p ∧ H p = some (.lst vs) ∧ RlA g ms H ds vs := by
  unfold ownL at h
  split at h
  · split at h
    · rename_i e
      cases h
      cases r with
      | loc hm =>
        obtain ⟨vs, h1, h2⟩ := rs.at_ _ _ _ e hm
        exact ⟨e, _, vs, rfl, hm, h1, h2⟩
    · cases h
  · cases h
/-- scalars -/
def scl : D → Option V
  | .non => some .non
  | .bl b => some (.bl b)
  | .int i => some (.int i)
  | .str x => some (.str x)
  | _ => none
theorem scl_ok {g : Gs} {ms : List Addr} {H : Hp} {d : D} {u v : V} (r : Rl g ms H d v) (h : scl d = some u) : v = u ∧ flatV u = true := by
  unfold scl at h
  split at h <;> first | (cases h; cases r; exact ⟨rfl, rfl⟩) | cases h
def sclA : List D → Option (List V)
  | [] => some []
  | d :: r => match scl d, sclA r with
    | some u, some us => some (u :: us)
    | _, _ => none
theorem sclA_ok {g : Gs} {ms : List Addr} {H : Hp} : ∀ {ds : List D} {us vs : List V}, RlA g ms H ds vs → sclA ds = some us → vs = us ∧ us.all flatV = true
  | [], us, vs, r, h => by
    cases r
    unfold sclA at h
    cases h
    exact ⟨rfl, rfl⟩
  | d :: ds, us, vs, r, h => by
    cases r with
    | cons r1 r2 =>
      unfold sclA at h
      split at h
      · rename_i u us' e1 e2
        cases h
        obtain ⟨h1, h2⟩ := scl_ok r1 e1
        obtain ⟨h3, h4⟩ := sclA_ok r2 e2
        subst h1 h3
        exact ⟨rfl, by simp [h2, h4]⟩
      · cases h
def mapO {α β : Type} (f : α → Option β) : List α → Option (List β)
  | [] => some []
  | a :: r => match f a, mapO f r with
    | some b, some bs => some (b :: bs)
    | _, _ => none
/-- nested data -/
def dat (st : Sto) : Nat → D → Option PyData
  | 0, _ => none
  | _ + 1, .non => some .none
  | _ + 1, .bl b => some (.bool b)
  | _ + 1, .int i => some (.int i)
  | _ + 1, .str x => some (.str x)
  | n + 1, .tup ds => match mapO (dat st n) ds with
    | some xs => some (.tuple xs)
    | none => none
  | n + 1, .tcon ds => match mapO (dat st n) ds with
    | some xs => some (.tuple xs)
    | none => none
  | n + 1, .lcon ds => match mapO (dat st n) ds with
    | some xs => some (.list xs)
    | none => none
  | n + 1, .loc k => match st[k]? with
    | some (.lst ds) => match mapO (dat st n) ds with
      | some xs => some (.list xs)
      | none => none
    | _ => none
  | _ + 1, _ => none
theorem datA_ok {g : Gs} {ms : List Addr} {H : Hp} {f : D → Option PyData} (hf : ∀ d x v, f d = some x → Rl g ms H d v → Dp g.K H v x) : ∀ {ds : List D} {xs : List PyData} {vs : List V}, mapO f ds = some xs → RlA g ms H ds vs → DpAll g.K H vs xs
  | [], xs, vs, h, r => by
    cases r
    unfold mapO at h
    cases h
    exact .nil
  | d :: ds, xs, vs, h, r => by
    cases r with
    | cons r1 r2 =>
      unfold mapO at h
      split at h
      · rename_i e1 e2
        cases h
        exact .cons (hf _ _ _ e1 r1) (datA_ok hf e2 r2)
      · cases h
theorem dat_ok {g : Gs} {ms : List Addr} {H : Hp} {st : Sto} (rs : Rs g ms H st) : ∀ (n : Nat) (d : D) (x : PyData) (v : V), dat st n d = some x → Rl g ms H d v → Dp g.K H v x
  | 0, d, x, v, h, r => by
    unfold dat at h
    cases h
  | n + 1, d, x, v, h, r => by
    have ih := dat_ok rs n
    cases d with
    | non => cases r; simp only [dat, Option.some.injEq] at h; subst h; exact .non
    | bl b => cases r; simp only [dat, Option.some.injEq] at h; subst h; exact .bl b
    | int b => cases r; simp only [dat, Option.some.injEq] at h; subst h; exact .int b
    | str b => cases r; simp only [dat, Option.some.injEq] at h; subst h; exact .str b
    | tup ds =>
      simp only [dat] at h
      split at h
      · rename_i e
        cases h
        cases r with
        | tup hp a => exact .tup (.inl (.inl hp)) (datA_ok (fun d x v => ih d x v) e a)
      · cases h
    | tcon ds =>
      simp only [dat] at h
      split at h
      · rename_i e
        cases h
        cases r with
        | tcon hp a => exact .tup (hp H).1 (datA_ok (fun d x v => ih d x v) e a)
      · cases h
    | lcon ds =>
      simp only [dat] at h
      split at h
      · rename_i e
        cases h
        cases r with
        | lcon hp a => exact .lst (hp H fun _ _ _ e => e) (datA_ok (fun d x v => ih d x v) e a)
      · cases h
    | loc k =>
      simp only [dat] at h
      split at h
      · rename_i ek
        split at h
        · rename_i e
          cases h
          cases r with
          | loc hm =>
            obtain ⟨vs, h1, h2⟩ := rs.at_ _ _ _ ek hm
            exact .lst (.inl (.inl h1)) (datA_ok (fun d x v => ih d x v) e h2)
        · cases h
      · cases h
    | exn k => simp only [dat] at h; cases h
    | fn k => simp only [dat] at h; cases h
    | cl k => simp only [dat] at h; cases h
    | ty k => simp only [dat] at h; cases h
def dat64 (st : Sto) (d : D) : Option PyData := match dat st 66 d with
  | some x => if SeqAt.shaped x = true then some x else none
  | none => none
theorem dat64_ok {g : Gs} {ms : List Addr} {H : Hp} {st : Sto} (rs : Rs g ms H st) {d : D} {x : PyData} {v : V} (h : dat64 st d = some x) (r : Rl g ms H d v) : Dp g.K H v x ∧ SeqAt.shaped x = true := by
  unfold dat64 at h
  split at h
  · rename_i e
    split at h
    · rename_i hs
      cases h
      exact ⟨dat_ok rs _ _ _ _ e r, hs⟩
    · cases h
  · cases h

/-! ### operators -/
/-- a plain value comes back: nothing is stored -/
theorem q_here {g : Gs} {st : Sto} {ms : List Addr} {H : Hp} {z : D} {Q : VK} (rs : Rs g ms H st) (h : ∀ ms' H' u, Fw ms H ms' H' → Rs g ms' H' st → Rl g ms' H' z u → Q u H') {u : V} (r : Rl g ms H z u) : Q u H := h ms H u (Fw.refl ms H) rs r
def oAdd : F1 (D × D) D := fun p st => match p with
  | (.int i, .int j) => some (.int (i + j), st)
  | (.str i, .str j) => if i.length + j.length ≤ sizeLine then some (.str (i ++ j), st) else none
  | (.tup xs, .tup ys) => if xs.length + ys.length ≤ sizeLine then some (.tup (xs ++ ys), st) else none
  | (x, y) => match ownL st x, ownL st y with
    | some (_, xs), some (_, ys) => if xs.length + ys.length ≤ sizeLine then some (.loc st.length, st ++ [.lst (xs ++ ys)]) else none
    | _, _ => none
def rAddA (K : PySem.W.Frag) : R2 := fun x y H Q => ((rI0 fun i j => .int (i + j)) x y H Q ∨ (∃ i j, x = .str i ∧ y = .str j ∧ i.length + j.length ≤ sizeLine ∧ Q (.str (i ++ j)) H)) ∨ (rCatA K x y H Q ∨ rCat x y H Q)
theorem op_addA {X : Cx} : OpR X (binaryOp .Add) (rAddA X.K) := OpR.or (OpR.or op_add op_add_str) (OpR.or op_catA op_cat)
theorem opS_add {g : Gs} : OpS g (Rl2 g) (Rl g) (fun p H Q => rAddA g.K p.1 p.2 H Q) oAdd := by
  rintro ⟨x, y⟩ st z st' e ms H ⟨vx, vy⟩ rs ⟨hx, hy⟩ Q h
  unfold oAdd at e
  split at e
  · rename_i h0
    cases h0
    cases e
    cases hx
    cases hy
    exact .inl (.inl ⟨_, _, rfl, rfl, q_here rs h (.int _)⟩)
  · rename_i h0
    cases h0
    split at e
    · rename_i hl
      cases e
      cases hx
      cases hy
      exact .inl (.inr ⟨_, _, rfl, rfl, hl, q_here rs h (.str _)⟩)
    · cases e
  · rename_i xs ys h0
    cases h0
    split at e
    · rename_i hl
      cases e
      cases hx with
      | tup hp ha =>
        cases hy with
        | tup hq hb =>
          rename_i p us q ws
          refine .inr (.inl ⟨p, q, us, ws, rfl, rfl, .inl (.inl hp), .inl (.inl hq), by rw [← ha.length, ← hb.length]; exact hl, fun e => ?_, fun e e2 => ?_, fun e e2 b hb' => ?_⟩)
          · subst e
            cases ha
            exact q_here rs h (.tup hq hb)
          · subst e2
            cases hb
            refine q_here rs h ?_
            rw [List.append_nil]
            exact .tup hp ha
          · obtain ⟨fw, rs2⟩ := rs.fresh (o := .tup (us ++ ws)) hb'
            exact h _ _ _ fw rs2 (.tup upd_same ((fw.rlA ha).append (fw.rlA hb)))
    · cases e
  · rename_i h0
    cases h0
    split at e
    · rename_i e1 e2
      split at e
      · rename_i hl
        cases e
        obtain ⟨_, p, us, rfl, _, hp, ha⟩ := ownL_ok rs hx e1
        obtain ⟨_, q, ws, rfl, _, hq, hb⟩ := ownL_ok rs hy e2
        refine .inr (.inr ⟨p, q, us, ws, rfl, rfl, hp, hq, by rw [← ha.length, ← hb.length]; exact hl, fun b hb' => ?_⟩)
        obtain ⟨fw, rs2, r⟩ := rs.alloc (o := .lst (us ++ ws)) (u := .lst (_ ++ _)) hb' fun {ms' H'} f e => ⟨_, e, (f.rlA ha).append (f.rlA hb)⟩
        exact h _ _ _ fw rs2 r
      · cases e
    · cases e
/-- ints in, under a condition, a value out -/
def oInt (C : Int → Int → Bool) (f : Int → Int → D) : F1 (D × D) D := fun p st => match p with
  | (.int i, .int j) => if C i j = true then some (f i j, st) else none
  | _ => none
theorem opS_int {g : Gs} {C : Int → Int → Bool} {C' : Int → Int → Prop} {f : Int → Int → D} {f' : Int → Int → V} (hC : ∀ i j, C i j = true → C' i j) (hf : ∀ ms H i j, Rl g ms H (f i j) (f' i j)) : OpS g (Rl2 g) (Rl g) (fun p H Q => rI C' f' p.1 p.2 H Q) (oInt C f) := by
  rintro ⟨x, y⟩ st z st' e ms H ⟨vx, vy⟩ rs ⟨hx, hy⟩ Q h
  unfold oInt at e
  split at e
  · rename_i h0
    cases h0
    split at e
    · rename_i hc
      cases e
      cases hx
      cases hy
      exact ⟨_, _, rfl, rfl, hC _ _ hc, q_here rs h (hf _ _ _ _)⟩
    · cases e
  · cases e
theorem rI_of {C : Int → Int → Prop} {f : Int → Int → V} {x y : V} {H : Hp} {Q : VK} (h : rI0 f x y H Q) : rI (fun _ _ => True) f x y H Q := by
  obtain ⟨i, j, a, b, c⟩ := h
  exact ⟨i, j, a, b, trivial, c⟩
theorem opR_I0 {X : Cx} {F : Value → Value → Sem Value} {f : Int → Int → V} (h : OpR X F (rI0 f)) : OpR X F (rI (fun _ _ => True) f) := fun pins s σ H x y v u Q I rx ry hh => h pins s σ H x y v u Q I rx ry (by
  obtain ⟨i, j, a, b, _, d⟩ := hh
  exact ⟨i, j, a, b, d⟩)
abbrev yes2 : Int → Int → Bool := fun _ _ => true
def oSub : F1 (D × D) D := oInt yes2 fun i j => .int (i - j)
def cMul (i j : Int) : Bool := decide ((-(2 ^ 64) < i ∧ i < 2 ^ 64) ∨ (-(2 ^ 64) < j ∧ j < 2 ^ 64))
theorem cMul_ok {i j : Int} (h : cMul i j = true) : CMul i j := by
  unfold cMul at h
  have h2 := of_decide_eq_true h
  exact h2
def oMul : F1 (D × D) D := oInt cMul fun i j => .int (i * j)
def cDiv (_ j : Int) : Bool := decide (0 < j ∧ j < 1073741824)
theorem cDiv_ok {i j : Int} (h : cDiv i j = true) : CDiv i j := by
  unfold cDiv at h
  have h2 := of_decide_eq_true h
  exact h2
def oDiv : F1 (D × D) D := oInt cDiv fun i j => .int (i / j)
def cMod (_ j : Int) : Bool := decide (0 < j)
def oMod : F1 (D × D) D := oInt cMod fun i j => .int (i % j)
def cPow (i j : Int) : Bool := decide (0 ≤ j ∧ j ≤ 1000000 ∧ i.natAbs < 2 ^ 64)
theorem cPow_ok {i j : Int} (h : cPow i j = true) : CPow i j := by
  unfold cPow at h
  have h2 := of_decide_eq_true h
  exact h2
def oPow : F1 (D × D) D := oInt cPow fun i j => .int (i ^ j.toNat)
section
variable {c : Cxt} {a b : Expr} {fa fb : F3 D} {pos : Pos}
theorem simE_add (ha : SimE c a fa) (hb : SimE c b fb) : SimE c (.BinOp a .Add b pos) (fB oAdd fa fb) := simE_bin (fun X o => by rw [← o.K]; exact op_addA) opS_add ha hb
theorem simE_sub (ha : SimE c a fa) (hb : SimE c b fb) : SimE c (.BinOp a .Sub b pos) (fB oSub fa fb) := simE_bin (fun X o => opR_I0 op_sub) (opS_int (fun _ _ _ => trivial) fun _ _ _ _ => .int _) ha hb
theorem simE_mul (ha : SimE c a fa) (hb : SimE c b fb) : SimE c (.BinOp a .Mult b pos) (fB oMul fa fb) := simE_bin (fun X o => op_mul) (opS_int (C' := CMul) (fun _ _ h => cMul_ok h) fun _ _ _ _ => .int _) ha hb
theorem simE_div (ha : SimE c a fa) (hb : SimE c b fb) : SimE c (.BinOp a .FloorDiv b pos) (fB oDiv fa fb) := simE_bin (fun X o => op_fdiv) (opS_int (C' := CDiv) (fun _ _ h => cDiv_ok h) fun _ _ _ _ => .int _) ha hb
theorem simE_mod (ha : SimE c a fa) (hb : SimE c b fb) : SimE c (.BinOp a .Mod b pos) (fB oMod fa fb) := simE_bin (fun X o => op_mod) (opS_int (fun _ _ h => of_decide_eq_true h) fun _ _ _ _ => .int _) ha hb
theorem simE_pow (ha : SimE c a fa) (hb : SimE c b fb) : SimE c (.BinOp a .Pow b pos) (fB oPow fa fb) := simE_bin (fun X o => op_pow) (opS_int (C' := CPow) (fun _ _ h => cPow_ok h) fun _ _ _ _ => .int _) ha hb
end
/-! comparisons -/
def oEq : F1 (D × D) D := fun p st => match dat64 st p.1, dat64 st p.2 with
  | some x, some y => some (.bl (PyData.eqv x y), st)
  | _, _ => none
def oNe : F1 (D × D) D := fun p st => match dat64 st p.1, dat64 st p.2 with
  | some x, some y => some (.bl (!PyData.eqv x y), st)
  | _, _ => none
theorem opS_eq {g : Gs} : OpS g (Rl2 g) (Rl g) (fun p H Q => rEqD g.K p.1 p.2 H Q) oEq := by
  rintro ⟨x, y⟩ st z st' e ms H ⟨vx, vy⟩ rs ⟨hx, hy⟩ Q h
  unfold oEq at e
  split at e
  · rename_i x' y' e1 e2
    cases e
    obtain ⟨d1, s1⟩ := dat64_ok rs e1 hx
    obtain ⟨d2, s2⟩ := dat64_ok rs e2 hy
    exact ⟨x', y', d1, d2, s1, s2, q_here rs h (.bl _)⟩
  · cases e
theorem opS_ne {g : Gs} : OpS g (Rl2 g) (Rl g) (fun p H Q => rNeD g.K p.1 p.2 H Q) oNe := by
  rintro ⟨x, y⟩ st z st' e ms H ⟨vx, vy⟩ rs ⟨hx, hy⟩ Q h
  unfold oNe at e
  split at e
  · rename_i x' y' e1 e2
    cases e
    obtain ⟨d1, s1⟩ := dat64_ok rs e1 hx
    obtain ⟨d2, s2⟩ := dat64_ok rs e2 hy
    exact ⟨x', y', d1, d2, s1, s2, q_here rs h (.bl _)⟩
  · cases e
/-- < on ints, texts, tuples of ints -/
def intsOf : List D → Option (List Int)
  | [] => some []
  | .int i :: r => match intsOf r with
    | some is => some (i :: is)
    | none => none
  | _ => none
theorem intsOf_ok {g : Gs} {ms : List Addr} {H : Hp} : ∀ {ds : List D} {is : List Int} {vs : List V}, intsOf ds = some is → RlA g ms H ds vs → vs = is.map V.int
  | [], is, vs, h, r => by
    cases r
    unfold intsOf at h
    cases h
    rfl
  | .int i :: ds, is, vs, h, r => by
    cases r with
    | cons r1 r2 =>
      unfold intsOf at h
      split at h
      · rename_i js e
        cases h
        cases r1
        rw [intsOf_ok e r2]
        rfl
      · cases h
  | .non :: ds, is, vs, h, r => by simp [intsOf] at h
  | .bl _ :: ds, is, vs, h, r => by simp [intsOf] at h
  | .str _ :: ds, is, vs, h, r => by simp [intsOf] at h
  | .tup _ :: ds, is, vs, h, r => by simp [intsOf] at h
  | .tcon _ :: ds, is, vs, h, r => by simp [intsOf] at h
  | .lcon _ :: ds, is, vs, h, r => by simp [intsOf] at h
  | .loc _ :: ds, is, vs, h, r => by simp [intsOf] at h
  | .exn _ :: ds, is, vs, h, r => by simp [intsOf] at h
  | .fn _ :: ds, is, vs, h, r => by simp [intsOf] at h
  | .cl _ :: ds, is, vs, h, r => by simp [intsOf] at h
  | .ty _ :: ds, is, vs, h, r => by simp [intsOf] at h
def oLt : F1 (D × D) D := fun p st => match p with
  | (.int i, .int j) => some (.bl (decide (i < j)), st)
  | (.str i, .str j) => some (.bl (decide (i.cps.toList < j.cps.toList)), st)
  | (.tup xs, .tup ys) => match intsOf xs, intsOf ys with
    | some is, some js => some (.bl (HT.lexLt is js), st)
    | _, _ => none
  | _ => none
def rLtA (K : PySem.W.Frag) : R2 := fun x y H Q => ((rI0 fun i j => .bl (decide (i < j))) x y H Q ∨ (∃ i j, x = .str i ∧ y = .str j ∧ Q (.bl (decide (i.cps.toList < j.cps.toList))) H)) ∨ rLtT K x y H Q
theorem opS_lt {g : Gs} : OpS g (Rl2 g) (Rl g) (fun p H Q => rLtA g.K p.1 p.2 H Q) oLt := by
  rintro ⟨x, y⟩ st z st' e ms H ⟨vx, vy⟩ rs ⟨hx, hy⟩ Q h
  unfold oLt at e
  split at e
  · rename_i h0
    cases h0
    cases e
    cases hx
    cases hy
    exact .inl (.inl ⟨_, _, rfl, rfl, q_here rs h (.bl _)⟩)
  · rename_i h0
    cases h0
    cases e
    cases hx
    cases hy
    exact .inl (.inr ⟨_, _, rfl, rfl, q_here rs h (.bl _)⟩)
  · rename_i xs ys h0
    cases h0
    split at e
    · rename_i is js e1 e2
      cases e
      cases hx with
      | tup hp ha =>
        cases hy with
        | tup hq hb =>
          rename_i p us q ws
          rw [intsOf_ok e1 ha] at hp
          rw [intsOf_ok e2 hb] at hq
          exact .inr ⟨p, q, is, js, rfl, rfl, .inl (.inl hp), .inl (.inl hq), q_here rs h (.bl _)⟩
    · cases e
  · cases e
def oLe : F1 (D × D) D := fun p st => match p with
  | (.int i, .int j) => some (.bl (decide (i ≤ j)), st)
  | (.str i, .str j) => some (.bl (!decide (j.cps.toList < i.cps.toList)), st)
  | _ => none
def rLeA : R2 := fun x y H Q => (rI0 fun i j => .bl (decide (i ≤ j))) x y H Q ∨ (∃ i j, x = .str i ∧ y = .str j ∧ Q (.bl (!decide (j.cps.toList < i.cps.toList))) H)
theorem opS_le {g : Gs} : OpS g (Rl2 g) (Rl g) (fun p H Q => rLeA p.1 p.2 H Q) oLe := by
  rintro ⟨x, y⟩ st z st' e ms H ⟨vx, vy⟩ rs ⟨hx, hy⟩ Q h
  unfold oLe at e
  split at e
  · rename_i h0
    cases h0
    cases e
    cases hx
    cases hy
    exact .inl ⟨_, _, rfl, rfl, q_here rs h (.bl _)⟩
  · rename_i h0
    cases h0
    cases e
    cases hx
    cases hy
    exact .inr ⟨_, _, rfl, rfl, q_here rs h (.bl _)⟩
  · cases e
def oGt : F1 (D × D) D := oInt yes2 fun i j => .bl (decide (j < i))
def oGe : F1 (D × D) D := oInt yes2 fun i j => .bl (decide (j ≤ i))
/-- x in a list or tuple of scalars -/
def oIn (neg : Bool) : F1 (D × D) D := fun p st => match scl p.1, seqA st p.2 with
  | some u, some ds => match sclA ds with
    | some us => some (.bl (if neg then !inV u us else inV u us), st)
    | none => none
  | _, _ => none
theorem opS_in {g : Gs} {neg : Bool} : OpS g (Rl2 g) (Rl g) (fun p H Q => rIn g.K neg p.1 p.2 H Q) (oIn neg) := by
  rintro ⟨x, y⟩ st z st' e ms H ⟨vx, vy⟩ rs ⟨hx, hy⟩ Q h
  unfold oIn at e
  split at e
  · rename_i u ds e1 e2
    split at e
    · rename_i us e3
      cases e
      obtain ⟨p, vs, rfl, hp, ha⟩ := seqA_ok rs hy e2
      obtain ⟨h1, h2⟩ := scl_ok hx e1
      obtain ⟨h3, h4⟩ := sclA_ok ha e3
      subst h1 h3
      exact ⟨p, _, rfl, hp, h2, h4, q_here rs h (.bl _)⟩
    · cases e
  · cases e
/-- one sign within a text -/
def oInS (neg : Bool) : F1 (D × D) D := fun p st => match p with
  | (.str x, .str z) => match x.cps.toList with
    | [c] => some (.bl (if neg then !decide (c ∈ z.cps.toList) else decide (c ∈ z.cps.toList)), st)
    | _ => none
  | _ => none
theorem str_one {x : Str} {c : Nat} (h : x.cps.toList = [c]) : x = ⟨#[c]⟩ := by
  obtain ⟨a⟩ := x
  have e : a = #[c] := by
    apply Array.toList_inj.mp
    exact h
  rw [e]
theorem opS_inS {g : Gs} : OpS g (Rl2 g) (Rl g) (fun p H Q => ∃ (c : Nat) (z : Str), p.1 = .str ⟨#[c]⟩ ∧ p.2 = .str z ∧ Q (.bl (decide (c ∈ z.cps.toList))) H) (oInS false) := by
  rintro ⟨x, y⟩ st z st' e ms H ⟨vx, vy⟩ rs ⟨hx, hy⟩ Q h
  unfold oInS at e
  split at e
  · rename_i h0
    cases h0
    split at e
    · rename_i h1
      cases e
      cases hx
      cases hy
      exact ⟨_, _, by rw [str_one h1], rfl, q_here rs h (.bl _)⟩
    · cases e
  · cases e
section
variable {c : Cxt} {a b : Expr} {fa fb : F3 D} {pos : Pos}
theorem OkX.hu64 {X : Cx} (o : OkX c X) : X.A.units + 65 < cLine := by have := o.room.un; omega
theorem OkX.hu {X : Cx} (o : OkX c X) : X.A.units + 1 < cLine := by have := o.room.un; omega
theorem nomk (b : Expr) {op : CmpOp} (h : op ≠ .In := by decide) (h2 : op ≠ .NotIn := by decide) : behindInMarks op b = false := nomark b h h2
theorem simE_eq (ha : SimE c a fa) (hb : SimE c b fb) : SimE c (.Compare a [.Eq] [b] pos) (fB oEq fa fb) := simE_cmp (fun X o => by rw [← o.K]; exact op_eqD (by have := o.hu64; omega)) opS_eq ha hb (nomk b)
theorem simT_eq (ha : SimE c a fa) (hb : SimE c b fb) : SimT c (.Compare a [.Eq] [b] pos) (bnd (fB oEq fa fb) asB) := simT_cmp (fun X o => by rw [← o.K]; exact op_eqD (by have := o.hu64; omega)) opS_eq ha hb (nomk b)
theorem simE_ne (ha : SimE c a fa) (hb : SimE c b fb) : SimE c (.Compare a [.NotEq] [b] pos) (fB oNe fa fb) := simE_cmp (fun X o => by rw [← o.K]; exact op_neD (by have := o.hu64; omega)) opS_ne ha hb (nomk b)
theorem simT_ne (ha : SimE c a fa) (hb : SimE c b fb) : SimT c (.Compare a [.NotEq] [b] pos) (bnd (fB oNe fa fb) asB) := simT_cmp (fun X o => by rw [← o.K]; exact op_neD (by have := o.hu64; omega)) opS_ne ha hb (nomk b)
theorem opR_lt {X : Cx} (o : OkX c X) : OpR X (compareOp .Lt) (rLtA c.g.K) := by rw [← o.K]; exact OpR.or (OpR.or op_lt op_lt_str) (op_ltT (by have := o.hu; omega))
theorem opR_le {X : Cx} (o : OkX c X) : OpR X (compareOp .LtE) rLeA := OpR.or op_le op_le_str
theorem simE_lt (ha : SimE c a fa) (hb : SimE c b fb) : SimE c (.Compare a [.Lt] [b] pos) (fB oLt fa fb) := simE_cmp (fun X o => opR_lt o) opS_lt ha hb (nomk b)
theorem simT_lt (ha : SimE c a fa) (hb : SimE c b fb) : SimT c (.Compare a [.Lt] [b] pos) (bnd (fB oLt fa fb) asB) := simT_cmp (fun X o => opR_lt o) opS_lt ha hb (nomk b)
theorem simE_le (ha : SimE c a fa) (hb : SimE c b fb) : SimE c (.Compare a [.LtE] [b] pos) (fB oLe fa fb) := simE_cmp (fun X o => opR_le o) opS_le ha hb (nomk b)
theorem simT_le (ha : SimE c a fa) (hb : SimE c b fb) : SimT c (.Compare a [.LtE] [b] pos) (bnd (fB oLe fa fb) asB) := simT_cmp (fun X o => opR_le o) opS_le ha hb (nomk b)
theorem opS_gt {g : Gs} : OpS g (Rl2 g) (Rl g) (fun p H Q => rI (fun _ _ => True) (fun i j => .bl (decide (j < i))) p.1 p.2 H Q) oGt := opS_int (fun _ _ _ => trivial) fun _ _ _ _ => .bl _
theorem opS_ge {g : Gs} : OpS g (Rl2 g) (Rl g) (fun p H Q => rI (fun _ _ => True) (fun i j => .bl (decide (j ≤ i))) p.1 p.2 H Q) oGe := opS_int (fun _ _ _ => trivial) fun _ _ _ _ => .bl _
theorem simE_gt (ha : SimE c a fa) (hb : SimE c b fb) : SimE c (.Compare a [.Gt] [b] pos) (fB oGt fa fb) := simE_cmp (fun X o => opR_I0 op_gt) opS_gt ha hb (nomk b)
theorem simT_gt (ha : SimE c a fa) (hb : SimE c b fb) : SimT c (.Compare a [.Gt] [b] pos) (bnd (fB oGt fa fb) asB) := simT_cmp (fun X o => opR_I0 op_gt) opS_gt ha hb (nomk b)
theorem simE_ge (ha : SimE c a fa) (hb : SimE c b fb) : SimE c (.Compare a [.GtE] [b] pos) (fB oGe fa fb) := simE_cmp (fun X o => opR_I0 op_ge) opS_ge ha hb (nomk b)
theorem simT_ge (ha : SimE c a fa) (hb : SimE c b fb) : SimT c (.Compare a [.GtE] [b] pos) (bnd (fB oGe fa fb) asB) := simT_cmp (fun X o => opR_I0 op_ge) opS_ge ha hb (nomk b)
/-- hm: by with_unfolding_all rfl -/
theorem simE_in (ha : SimE c a fa) (hb : SimE c b fb) (hm : behindInMarks .In b = false := by with_unfolding_all rfl) : SimE c (.Compare a [.In] [b] pos) (fB (oIn false) fa fb) := simE_cmp (fun X o => by rw [← o.K]; exact op_in_seq) opS_in ha hb hm
theorem simT_in (ha : SimE c a fa) (hb : SimE c b fb) (hm : behindInMarks .In b = false := by with_unfolding_all rfl) : SimT c (.Compare a [.In] [b] pos) (bnd (fB (oIn false) fa fb) asB) := simT_cmp (fun X o => by rw [← o.K]; exact op_in_seq) opS_in ha hb hm
theorem simE_nin (ha : SimE c a fa) (hb : SimE c b fb) (hm : behindInMarks .NotIn b = false := by with_unfolding_all rfl) : SimE c (.Compare a [.NotIn] [b] pos) (fB (oIn true) fa fb) := simE_cmp (fun X o => by rw [← o.K]; exact op_notIn_seq) opS_in ha hb hm
theorem simT_nin (ha : SimE c a fa) (hb : SimE c b fb) (hm : behindInMarks .NotIn b = false := by with_unfolding_all rfl) : SimT c (.Compare a [.NotIn] [b] pos) (bnd (fB (oIn true) fa fb) asB) := simT_cmp (fun X o => by rw [← o.K]; exact op_notIn_seq) opS_in ha hb hm
theorem simE_inS (ha : SimE c a fa) (hb : SimE c b fb) (hm : behindInMarks .In b = false := by with_unfolding_all rfl) : SimE c (.Compare a [.In] [b] pos) (fB (oInS false) fa fb) := simE_cmp (fun X o => op_in_sign) opS_inS ha hb hm
end
end S3

set_option maxHeartbeats 2000000
/-! S3D: logic, subscripts, slices, dicts, calls of built-ins. -/
namespace S3
open PySem PySem.Spec PyProof.Rows L2

/-! ### is None, is a bool -/
def isN : D → Bool
  | .non => true
  | _ => false
theorem isN_ok {g : Gs} {ms : List Addr} {H : Hp} {d : D} {v : V} (r : Rl g ms H d v) : decide (v = .non) = isN d := by
  cases r <;> rfl
def oIsN (neg : Bool) : F1 D D := fun d st => some (.bl (if neg then !isN d else isN d), st)
section
variable {c : Cxt} {a b e : Expr} {es : List Expr} {fa fb : F3 D} {pos pos' : Pos}
theorem rd_isN {g : Gs} {E : XK} {ta : TE} {fa : F3 D} (h : Rd g E (Rl g) ta fa) : Rd g E (Rl g) (tIsN ta) (fU (oIsN false) fa) := by
  intro env st r st' e ms σ H rs re Q hq
  refine h.bind e rs re (fun x st1 ms1 H1 fw rs1 re1 e1 v hv => ?_) fun c ms1 H1 er fw rs1 => out_er hq er fw rs1
  cases e1
  exact hq ms1 H1 fw rs1 _ (by rw [isN_ok hv]; exact .bl _)
theorem rd_notN {g : Gs} {E : XK} {ta : TE} {fa : F3 D} (h : Rd g E (Rl g) ta fa) : Rd g E (Rl g) (tNotN ta) (fU (oIsN true) fa) := by
  intro env st r st' e ms σ H rs re Q hq
  refine h.bind e rs re (fun x st1 ms1 H1 fw rs1 re1 e1 v hv => ?_) fun c ms1 H1 er fw rs1 => out_er hq er fw rs1
  cases e1
  exact hq ms1 H1 fw rs1 _ (by rw [isN_ok hv]; exact .bl _)
theorem simE_isN {j : Nat} (ha : SimE c a fa) : SimE c (.Compare a [.Is] [.Constant .none j pos'] pos) (fU (oIsN false) fa) := by
  obtain ⟨ta, pa, ra⟩ := ha
  exact ⟨tIsN ta, fun X o => pe_cmp (pc_isN (pa X o)), rd_isN ra⟩
theorem simE_notN {j : Nat} (ha : SimE c a fa) : SimE c (.Compare a [.IsNot] [.Constant .none j pos'] pos) (fU (oIsN true) fa) := by
  obtain ⟨ta, pa, ra⟩ := ha
  exact ⟨tNotN ta, fun X o => pe_cmp (pc_notN (pa X o)), rd_notN ra⟩
theorem Rd.tB {g : Gs} {E : XK} {t : TE} {f : F3 D} (h : Rd g E (Rl g) t f) : Rd g E RelB (tB t) (bnd f asB) := h.test
theorem simT_isN {j : Nat} (ha : SimE c a fa) : SimT c (.Compare a [.Is] [.Constant .none j pos'] pos) (bnd (fU (oIsN false) fa) asB) := by
  obtain ⟨ta, pa, ra⟩ := ha
  exact ⟨tB (tIsN ta), fun X o => pt_cmp (pc_isN (pa X o)), (rd_isN ra).tB⟩
theorem simT_notN {j : Nat} (ha : SimE c a fa) : SimT c (.Compare a [.IsNot] [.Constant .none j pos'] pos) (bnd (fU (oIsN true) fa) asB) := by
  obtain ⟨ta, pa, ra⟩ := ha
  exact ⟨tB (tNotN ta), fun X o => pt_cmp (pc_notN (pa X o)), (rd_notN ra).tB⟩
/-- is, of two bools -/
def oIsB (neg : Bool) : F1 (D × D) D := fun p st => match p with
  | (.bl a, .bl b) => some (.bl (if neg then !decide (a = b) else decide (a = b)), st)
  | _ => none
theorem opS_isB {g : Gs} : OpS g (Rl2 g) (Rl g) (fun p H Q => ∃ a b, p.1 = V.bl a ∧ p.2 = V.bl b ∧ Q (.bl (decide (a = b))) H) (oIsB false) := by
  rintro ⟨x, y⟩ st z st' e ms H ⟨vx, vy⟩ rs ⟨hx, hy⟩ Q h
  unfold oIsB at e
  split at e
  · rename_i h0
    cases h0
    cases e
    cases hx
    cases hy
    exact ⟨_, _, rfl, rfl, q_here rs h (.bl _)⟩
  · cases e
theorem opS_isnotB {g : Gs} : OpS g (Rl2 g) (Rl g) (fun p H Q => ∃ a b, p.1 = V.bl a ∧ p.2 = V.bl b ∧ Q (.bl (!decide (a = b))) H) (oIsB true) := by
  rintro ⟨x, y⟩ st z st' e ms H ⟨vx, vy⟩ rs ⟨hx, hy⟩ Q h
  unfold oIsB at e
  split at e
  · rename_i h0
    cases h0
    cases e
    cases hx
    cases hy
    exact ⟨_, _, rfl, rfl, q_here rs h (.bl _)⟩
  · cases e
theorem simT_isB (ha : SimE c a fa) (hb : SimE c b fb) : SimT c (.Compare a [.Is] [b] pos) (bnd (fB (oIsB false) fa fb) asB) := simT_cmp (fun X o => op_is_bl) opS_isB ha hb (nomk b)
theorem simT_isnotB (ha : SimE c a fa) (hb : SimE c b fb) : SimT c (.Compare a [.IsNot] [b] pos) (bnd (fB (oIsB true) fa fb) asB) := simT_cmp (fun X o => op_isnot_bl) opS_isnotB ha hb (nomk b)
theorem simE_isB (ha : SimE c a fa) (hb : SimE c b fb) : SimE c (.Compare a [.Is] [b] pos) (fB (oIsB false) fa fb) := simE_cmp (fun X o => op_is_bl) opS_isB ha hb (nomk b)

/-! ### and, or, not, if -/
def SimW (c : Cxt) (e : Expr) (f : F3 Bool) : Prop := ∃ t : TT, (∀ X, OkX c X → PW X e t) ∧ Rd c.g c.E RelB t f
theorem SimW.t {f : F3 Bool} (h : SimW c e f) : SimT c e f := by
  obtain ⟨t, p, r⟩ := h
  exact ⟨t, fun X o => (p X o).pt, r⟩
def fAnd (f g : F3 Bool) : F3 Bool := bnd f fun b => if b = true then g else ret3 false
def fOr (f g : F3 Bool) : F3 Bool := bnd f fun b => if b = true then ret3 true else g
def fNot (f : F3 Bool) : F3 Bool := bnd f fun b => ret3 (!b)
variable {rest : List Expr} {f1 f2 : F3 Bool}
theorem rd_and {g : Gs} {E : XK} {t u : TT} (h : Rd g E RelB t f1) (h2 : Rd g E RelB u f2) : Rd g E RelB (tAnd t u) (fAnd f1 f2) := by
  intro env st r st' e ms σ H rs re Q hq
  refine h.bind e rs re (fun x st1 ms1 H1 fw rs1 re1 e1 b hb => ?_) fun c ms1 H1 er fw rs1 => out_er hq er fw rs1
  cases hb
  cases x with
  | true => exact iteT (h2 env st1 r st' e1 ms1 σ H1 rs1 re1 Q fun ms2 H2 fw2 rs2 => hq ms2 H2 (fw.trans fw2) rs2)
  | false =>
    cases e1
    exact iteF (hq ms1 H1 fw rs1 _ rfl)
theorem rd_or {g : Gs} {E : XK} {t u : TT} (h : Rd g E RelB t f1) (h2 : Rd g E RelB u f2) : Rd g E RelB (tOr t u) (fOr f1 f2) := by
  intro env st r st' e ms σ H rs re Q hq
  refine h.bind e rs re (fun x st1 ms1 H1 fw rs1 re1 e1 b hb => ?_) fun c ms1 H1 er fw rs1 => out_er hq er fw rs1
  cases hb
  cases x with
  | false => exact iteF (h2 env st1 r st' e1 ms1 σ H1 rs1 re1 Q fun ms2 H2 fw2 rs2 => hq ms2 H2 (fw.trans fw2) rs2)
  | true =>
    cases e1
    exact iteT (hq ms1 H1 fw rs1 _ rfl)
theorem rd_not {g : Gs} {E : XK} {t : TT} (h : Rd g E RelB t f1) : Rd g E RelB (tNot t) (fNot f1) := by
  intro env st r st' e ms σ H rs re Q hq
  refine h.bind e rs re (fun x st1 ms1 H1 fw rs1 re1 e1 b hb => ?_) fun c ms1 H1 er fw rs1 => out_er hq er fw rs1
  cases hb
  cases e1
  exact hq ms1 H1 fw rs1 _ rfl
theorem simW_and1 (ha : SimT c a f1) : SimW c (.BoolOp .And [a] pos) f1 := by
  obtain ⟨t, p, r⟩ := ha
  exact ⟨t, fun X o => pw_and1 (p X o), r⟩
theorem simW_or1 (ha : SimT c a f1) : SimW c (.BoolOp .Or [a] pos) f1 := by
  obtain ⟨t, p, r⟩ := ha
  exact ⟨t, fun X o => pw_or1 (p X o), r⟩
theorem simW_and (ha : SimT c a f1) (hb : SimW c (.BoolOp .And (b :: rest) pos) f2) : SimW c (.BoolOp .And (a :: b :: rest) pos) (fAnd f1 f2) := by
  obtain ⟨t, p, r⟩ := ha
  obtain ⟨t2, p2, r2⟩ := hb
  exact ⟨tAnd t t2, fun X o => pw_and (p X o) (p2 X o), rd_and r r2⟩
theorem simW_or (ha : SimT c a f1) (hb : SimW c (.BoolOp .Or (b :: rest) pos) f2) : SimW c (.BoolOp .Or (a :: b :: rest) pos) (fOr f1 f2) := by
  obtain ⟨t, p, r⟩ := ha
  obtain ⟨t2, p2, r2⟩ := hb
  exact ⟨tOr t t2, fun X o => pw_or (p X o) (p2 X o), rd_or r r2⟩
theorem simT_not (ha : SimT c a f1) : SimT c (.UnaryOp .Not a pos) (fNot f1) := by
  obtain ⟨t, p, r⟩ := ha
  exact ⟨tNot t, fun X o => pt_not (p X o), rd_not r⟩
/-- a call, a name, a subscript as a test: its value is a bool -/
theorem simT_val (ha : SimE c a fa) (he : ∀ (env : Env) (whole : Sem Value), isTrue a env whole = (do let v ← whole; standAt a.pos; holding [v] (truthy v)) := by intro _ _; rfl) : SimT c a (bnd fa asB) := by
  obtain ⟨t, p, r⟩ := ha
  exact ⟨tB t, fun X o => pt_val (p X o) (he X.env), r.tB⟩
/-- .. as values -/
def fAndV (f g : F3 D) : F3 D := bnd (bnd f asB) fun b => if b = true then g else ret3 (.bl false)
def fOrV (f g : F3 D) : F3 D := bnd (bnd f asB) fun b => if b = true then ret3 (.bl true) else g
def fNotV (f : F3 D) : F3 D := bnd (bnd f asB) fun b => ret3 (.bl (!b))
theorem rd_andV {g : Gs} {E : XK} {t u : TE} (h : Rd g E (Rl g) t fa) (h2 : Rd g E (Rl g) u fb) : Rd g E (Rl g) (tAndV t u) (fAndV fa fb) := by
  intro env st r st' e ms σ H rs re Q hq
  have h' := h.tB
  have key : (tB t) σ H fun k H1 => if k = true then u σ H1 Q else Q (.bl false) H1 := by
    refine h'.bind e rs re (fun x st1 ms1 H1 fw rs1 re1 e1 b hb => ?_) fun c ms1 H1 er fw rs1 => out_er hq er fw rs1
    cases hb
    cases x with
    | true => exact iteT (h2 env st1 r st' e1 ms1 σ H1 rs1 re1 Q fun ms2 H2 fw2 rs2 => hq ms2 H2 (fw.trans fw2) rs2)
    | false =>
      cases e1
      exact iteF (hq ms1 H1 fw rs1 _ (.bl _))
  exact key
theorem rd_orV {g : Gs} {E : XK} {t u : TE} (h : Rd g E (Rl g) t fa) (h2 : Rd g E (Rl g) u fb) : Rd g E (Rl g) (tOrV t u) (fOrV fa fb) := by
  intro env st r st' e ms σ H rs re Q hq
  have h' := h.tB
  have key : (tB t) σ H fun k H1 => if k = true then Q (.bl true) H1 else u σ H1 Q := by
    refine h'.bind e rs re (fun x st1 ms1 H1 fw rs1 re1 e1 b hb => ?_) fun c ms1 H1 er fw rs1 => out_er hq er fw rs1
    cases hb
    cases x with
    | false => exact iteF (h2 env st1 r st' e1 ms1 σ H1 rs1 re1 Q fun ms2 H2 fw2 rs2 => hq ms2 H2 (fw.trans fw2) rs2)
    | true =>
      cases e1
      exact iteT (hq ms1 H1 fw rs1 _ (.bl _))
  exact key
theorem rd_notV {g : Gs} {E : XK} {t : TE} (h : Rd g E (Rl g) t fa) : Rd g E (Rl g) (tNotV t) (fNotV fa) := by
  intro env st r st' e ms σ H rs re Q hq
  have key : (tB t) σ H fun k H1 => Q (.bl (!k)) H1 := by
    refine h.tB.bind e rs re (fun x st1 ms1 H1 fw rs1 re1 e1 b hb => ?_) fun c ms1 H1 er fw rs1 => out_er hq er fw rs1
    cases hb
    cases e1
    exact hq ms1 H1 fw rs1 _ (.bl _)
  exact key
theorem simE_one {op : BoolOp} (ha : SimE c a fa) : SimE c (.BoolOp op [a] pos) fa := by
  obtain ⟨t, p, r⟩ := ha
  exact ⟨t, fun X o => pe_one (p X o), r⟩
theorem simE_and (ha : SimE c a fa) (hb : SimE c (.BoolOp .And (b :: rest) pos) fb) : SimE c (.BoolOp .And (a :: b :: rest) pos) (fAndV fa fb) := by
  obtain ⟨t, p, r⟩ := ha
  obtain ⟨t2, p2, r2⟩ := hb
  exact ⟨tAndV t t2, fun X o => pe_and (p X o) (p2 X o), rd_andV r r2⟩
theorem simE_or (ha : SimE c a fa) (hb : SimE c (.BoolOp .Or (b :: rest) pos) fb) : SimE c (.BoolOp .Or (a :: b :: rest) pos) (fOrV fa fb) := by
  obtain ⟨t, p, r⟩ := ha
  obtain ⟨t2, p2, r2⟩ := hb
  exact ⟨tOrV t t2, fun X o => pe_or (p X o) (p2 X o), rd_orV r r2⟩
theorem simE_not (ha : SimE c a fa) : SimE c (.UnaryOp .Not a pos) (fNotV fa) := by
  obtain ⟨t, p, r⟩ := ha
  exact ⟨tNotV t, fun X o => pe_not (p X o), rd_notV r⟩
def fIf (f : F3 Bool) (g h : F3 D) : F3 D := bnd f fun b => if b = true then g else h
theorem simE_if {e : Expr} (hc : SimT c e f1) (ha : SimE c a fa) (hb : SimE c b fb) : SimE c (.IfExp e a b pos) (fIf f1 fa fb) := by
  obtain ⟨t, p, r⟩ := hc
  obtain ⟨ta, pa, ra⟩ := ha
  obtain ⟨tb, pb, rb⟩ := hb
  refine ⟨tIf t ta tb, fun X o => pe_ifExp (p X o) (pa X o) (pb X o), ?_⟩
  intro env st rr st' e ms σ H rs re Q hq
  refine r.bind e rs re (fun x st1 ms1 H1 fw rs1 re1 e1 b hb => ?_) fun c ms1 H1 er fw rs1 => out_er hq er fw rs1
  cases hb
  cases x with
  | true => exact iteT (ra env st1 rr st' e1 ms1 σ H1 rs1 re1 Q fun ms2 H2 fw2 rs2 => hq ms2 H2 (fw.trans fw2) rs2)
  | false => exact iteF (rb env st1 rr st' e1 ms1 σ H1 rs1 re1 Q fun ms2 H2 fw2 rs2 => hq ms2 H2 (fw.trans fw2) rs2)
/-- unary minus -/
def oNeg : F1 D D := fun d st => match d with
  | .int i => some (.int (-i), st)
  | _ => none
theorem simE_neg (ha : SimE c a fa) : SimE c (.UnaryOp .USub a pos) (fU oNeg fa) := by
  obtain ⟨ta, pa, ra⟩ := ha
  refine ⟨tUn (rU fun i => .int (-i)) ta, fun X o => pe_un un_neg (pa X o), ra.op1 ?_⟩
  intro d st z st' e ms H v rs hv Q h
  unfold oNeg at e
  split at e
  · cases e
    cases hv
    exact ⟨_, rfl, q_here rs h (.int _)⟩
  · cases e

/-! ### a <= b <= c -/
def fChain (o1 o2 : F1 (D × D) D) (fa fb fc : F3 D) : F3 D := bnd fa fun x => bnd fb fun y => bnd (bnd (lift o1 (x, y)) asB) fun k => if k = true then bnd fc fun w => lift o2 (y, w) else ret3 (.bl false)
theorem rd_chain {g : Gs} {E : XK} {ta tb tc : TE} {fa fb fc : F3 D} {r r' : R2} {o1 o2 : F1 (D × D) D} (ha : Rd g E (Rl g) ta fa) (hb : Rd g E (Rl g) tb fb) (hc : Rd g E (Rl g) tc fc)
    (h1 : OpS g (Rl2 g) (Rl g) (fun p H Q => r p.1 p.2 H Q) o1) (h2 : OpS g (Rl2 g) (Rl g) (fun p H Q => r' p.1 p.2 H Q) o2) : Rd g E (Rl g) (tChain r r' ta tb tc) (fChain o1 o2 fa fb fc) := by
  intro env st rr st' e ms σ H rs re Q hq
  refine ha.bind e rs re (fun x st1 ms1 H1 fw1 rs1 re1 e1 vx hx => ?_) fun c ms1 H1 er fw rs1 => out_er hq er fw rs1
  refine hb.bind e1 rs1 re1 (fun y st2 ms2 H2 fw2 rs2 re2 e2 vy hy => ?_) fun c ms2 H2 er fw2 rs2 => out_er hq er (fw1.trans fw2) rs2
  unfold bnd at e2
  split at e2
  · rename_i k st3 hk
    unfold lift at hk
    split at hk
    · rename_i z st4 hz
      split at hz
      · rename_i z' st5 hz'
        cases hz
        unfold asB at hk
        split at hk
        · cases hk
          refine h1 (x, y) st2 _ _ hz' ms2 H2 (vx, vy) rs2 ⟨fw2.rl hx, hy⟩ _ fun ms3 H3 u fw3 rs3 hu => ?_
          cases hu
          refine ⟨_, rfl, ?_⟩
          have re3 := re2.mono fw3
          cases k with
          | false =>
            cases e2
            exact iteF (hq ms3 H3 ((fw1.trans fw2).trans fw3) rs3 _ (.bl _))
          | true =>
            refine iteT (hc.bind e2 rs3 re3 (fun w st6 ms4 H4 fw4 rs4 re4 e4 vw hw => ?_) fun c ms4 H4 er fw4 rs4 => out_er hq er (((fw1.trans fw2).trans fw3).trans fw4) rs4)
            unfold lift at e4
            split at e4
            · rename_i z2 st7 hz2
              cases e4
              exact h2 (y, w) st6 _ _ hz2 ms4 H4 (vy, vw) rs4 ⟨(fw3.trans fw4).rl hy, hw⟩ _ fun ms5 H5 u fw5 rs5 hu => hq ms5 H5 ((((fw1.trans fw2).trans fw3).trans fw4).trans fw5) rs5 _ hu
            · cases e4
        · cases hk
      · cases hz
    · rename_i cc st4 hz
      split at hz <;> cases hz
    · cases hk
  · rename_i cc st3 hk
    unfold lift at hk
    split at hk
    · rename_i z st4 hz
      unfold asB at hk
      split at hk <;> cases hk
    · rename_i cc st4 hz
      split at hz <;> cases hz
    · cases hk
  · cases e2
variable {fc : F3 D} {d : Expr}
theorem simE_chain {op op' : CmpOp} {r r' : R2} {o1 o2 : F1 (D × D) D} (hr : ∀ X, OkX c X → OpR X (compareOp op) r) (ho : OpS c.g (Rl2 c.g) (Rl c.g) (fun p H Q => r p.1 p.2 H Q) o1) (hr' : ∀ X, OkX c X → OpR X (compareOp op') r') (ho' : OpS c.g (Rl2 c.g) (Rl c.g) (fun p H Q => r' p.1 p.2 H Q) o2)
    (ha : SimE c a fa) (hb : SimE c b fb) (hd : SimE c d fc) (hm : lastMarks [op, op'] [b, d] = false := by with_unfolding_all rfl) : SimE c (.Compare a [op, op'] [b, d] pos) (fChain o1 o2 fa fb fc) := by
  obtain ⟨ta, pa, ra⟩ := ha
  obtain ⟨tb, pb, rb⟩ := hb
  obtain ⟨td, pd, rd⟩ := hd
  exact ⟨tChain r r' ta tb td, fun X o => pe_chain (hr X o) (hr' X o) (pa X o) (pb X o) (pd X o) hm, rd_chain ra rb rd ho ho'⟩
theorem simT_chain {op op' : CmpOp} {r r' : R2} {o1 o2 : F1 (D × D) D} (hr : ∀ X, OkX c X → OpR X (compareOp op) r) (ho : OpS c.g (Rl2 c.g) (Rl c.g) (fun p H Q => r p.1 p.2 H Q) o1) (hr' : ∀ X, OkX c X → OpR X (compareOp op') r') (ho' : OpS c.g (Rl2 c.g) (Rl c.g) (fun p H Q => r' p.1 p.2 H Q) o2)
    (ha : SimE c a fa) (hb : SimE c b fb) (hd : SimE c d fc) (hm : lastMarks [op, op'] [b, d] = false := by with_unfolding_all rfl) : SimT c (.Compare a [op, op'] [b, d] pos) (bnd (fChain o1 o2 fa fb fc) asB) := by
  obtain ⟨ta, pa, ra⟩ := ha
  obtain ⟨tb, pb, rb⟩ := hb
  obtain ⟨td, pd, rd⟩ := hd
  exact ⟨tTest (tChain r r' ta tb td), fun X o => pt_chain (hr X o) (hr' X o) (pa X o) (pb X o) (pd X o) hm, (rd_chain ra rb rd ho ho').test⟩
theorem simE_leLt (ha : SimE c a fa) (hb : SimE c b fb) (hd : SimE c d fc) (hm : lastMarks [.LtE, .Lt] [b, d] = false := by with_unfolding_all rfl) : SimE c (.Compare a [.LtE, .Lt] [b, d] pos) (fChain oLe oLt fa fb fc) := simE_chain (fun X o => opR_le o) opS_le (fun X o => opR_lt o) opS_lt ha hb hd hm
theorem simT_leLe (ha : SimE c a fa) (hb : SimE c b fb) (hd : SimE c d fc) (hm : lastMarks [.LtE, .LtE] [b, d] = false := by with_unfolding_all rfl) : SimT c (.Compare a [.LtE, .LtE] [b, d] pos) (bnd (fChain oLe oLe fa fb fc) asB) := simT_chain (fun X o => opR_le o) opS_le (fun X o => opR_le o) opS_le ha hb hd hm
theorem simE_leLe (ha : SimE c a fa) (hb : SimE c b fb) (hd : SimE c d fc) (hm : lastMarks [.LtE, .LtE] [b, d] = false := by with_unfolding_all rfl) : SimE c (.Compare a [.LtE, .LtE] [b, d] pos) (fChain oLe oLe fa fb fc) := simE_chain (fun X o => opR_le o) opS_le (fun X o => opR_le o) opS_le ha hb hd hm
theorem simT_leLt (ha : SimE c a fa) (hb : SimE c b fb) (hd : SimE c d fc) (hm : lastMarks [.LtE, .Lt] [b, d] = false := by with_unfolding_all rfl) : SimT c (.Compare a [.LtE, .Lt] [b, d] pos) (bnd (fChain oLe oLt fa fb fc) asB) := simT_chain (fun X o => opR_le o) opS_le (fun X o => opR_lt o) opS_lt ha hb hd hm
end

/-! ### subscripts -/
theorem RlA.atI {g : Gs} {ms : List Addr} {H : Hp} {ds : List D} {vs : List V} {i : Int} {d : D} (r : RlA g ms H ds vs) (h : L2.atI ds i = some d) : ∃ v, L2.atI vs i = some v ∧ Rl g ms H d v := by
  unfold L2.atI at h ⊢
  rw [r.length] at h
  cases e : ixN vs.length i with
  | none =>
    rw [e] at h
    cases h
  | some j =>
    rw [e] at h
    exact r.get (i := j) h
def oIx : F1 (D × D) D := fun p st => match p.2 with
  | .int i => match p.1 with
    | .str z => if z.length ≤ sizeLine then match L2.atI z.cps.toList i with
        | some k => some (.str ⟨#[k]⟩, st)
        | none => none
      else none
    | x => match seqA st x with
      | some ds => match L2.atI ds i with
        | some d => some (d, st)
        | none => none
      | none => none
  | _ => none
theorem opS_ix {g : Gs} : OpS g (Rl2 g) (Rl g) (fun p H Q => rIx g.K p.1 p.2 H Q) oIx := by
  rintro ⟨x, y⟩ st z st' e ms H ⟨vx, vy⟩ rs ⟨hx, hy⟩ Q h
  unfold oIx at e
  split at e
  · rename_i i h0
    have h0 : y = .int i := h0
    subst h0
    cases hy
    split at e
    · rename_i w h1
      have h1 : x = .str w := h1
      subst h1
      split at e
      · rename_i hl
        split at e
        · rename_i k hk
          cases e
          cases hx
          exact .inr (.inr ⟨w, i, k, rfl, rfl, hl, hk, q_here rs h (.str _)⟩)
        · cases e
      · cases e
    · split at e
      · rename_i ds e1
        split at e
        · rename_i d e2
          cases e
          obtain ⟨p, vs, rfl, hp, ha⟩ := seqA_ok rs hx e1
          obtain ⟨v, k1, k2⟩ := ha.atI e2
          rcases hp with hp | hp
          · exact .inl ⟨p, vs, i, v, rfl, rfl, hp, k1, q_here rs h k2⟩
          · exact .inr (.inl ⟨p, vs, i, v, rfl, rfl, hp, k1, q_here rs h k2⟩)
        · cases e
      · cases e
  · cases e
section
variable {c : Cxt} {a b e : Expr} {es : List Expr} {fa fb : F3 D} {pos p2 : Pos}
theorem simE_ix (ha : SimE c a fa) (hb : SimE c b fb) (hs : PlainIx b := by intro _ _; rfl) : SimE c (.Subscript a b pos) (fB oIx fa fb) := by
  obtain ⟨ta, pa, ra⟩ := ha
  obtain ⟨tb, pb, rb⟩ := hb
  exact ⟨tOp (rIx c.g.K) ta tb, fun X o => pe_ix (by rw [← o.K]; exact ix_seq) (pa X o) (pb X o) hs, ra.op2 rb opS_ix⟩

/-! ### slices -/
def cut3 {α : Type} (xs : List α) (lo hi : Option Int) : List α := (xs.drop (HT.sIx xs.length 0 lo)).take (HT.sIx xs.length xs.length hi - HT.sIx xs.length 0 lo)
theorem RlA.cut {g : Gs} {ms : List Addr} {H : Hp} {ds : List D} {vs : List V} (r : RlA g ms H ds vs) (lo hi : Option Int) : RlA g ms H (cut3 ds lo hi) (cutV vs lo hi) := by
  unfold cut3 cutV
  rw [r.length]
  exact (r.drop _).take _
theorem cut3_all {α : Type} {xs : List α} {lo hi : Option Int} (h : HT.sIx xs.length 0 lo = 0 ∧ HT.sIx xs.length xs.length hi = xs.length) : cut3 xs lo hi = xs := by
  unfold cut3
  rw [h.1, h.2, List.drop_zero, Nat.sub_zero]
  exact List.take_length
def SimO (c : Cxt) (e : Option Expr) (f : F3 (Option Int)) : Prop := ∃ t : TO, (∀ X, OkX c X → PO X e t) ∧ Rd c.g c.E (fun _ _ a b => a = b) t f
def asI (d : D) : F3 (Option Int) := fun _ st => match d with
  | .int i => some (.ok (some i), st)
  | _ => none
theorem simO_none : SimO c none (ret3 none) := ⟨tNoPart, fun X o => po_none, Rd.ret (fun _ _ => rfl) fun _ _ _ h => h.symm⟩
theorem simO_some (ha : SimE c a fa) : SimO c (some a) (bnd fa asI) := by
  obtain ⟨ta, pa, ra⟩ := ha
  refine ⟨tPart ta, fun X o => po_some (pa X o), ?_⟩
  intro env st r st' e ms σ H rs re Q hq
  refine ra.bind e rs re (fun x st1 ms1 H1 fw rs1 re1 e1 v hv => ?_) fun c ms1 H1 er fw rs1 => out_er hq er fw rs1
  unfold asI at e1
  split at e1
  · cases e1
    cases hv
    exact ⟨_, rfl, hq ms1 H1 fw rs1 _ rfl⟩
  · cases e1
def oSl : F1 (D × Option Int × Option Int) D := fun p st => match p.1 with
  | .tup ds => some (.tup (cut3 ds p.2.1 p.2.2), st)
  | .str z => if z.length ≤ sizeLine then some (.str (cutS z p.2.1 p.2.2), st) else none
  | x => match seqL st x with
    | some ds => some (.loc st.length, st ++ [.lst (cut3 ds p.2.1 p.2.2)])
    | none => none
def fSl (fa : F3 D) (fl fh : F3 (Option Int)) : F3 D := bnd fa fun x => bnd fl fun l => bnd fh fun h => lift oSl (x, l, h)
abbrev rSlX (K : PySem.W.Frag) : V → Option Int → Option Int → Hp → VK → Prop := fun x lo hi H Q => ((rSlL K) x lo hi H Q ∨ (rSlA K) x lo hi H Q) ∨ (∃ z, x = .str z ∧ z.length ≤ sizeLine ∧ Q (.str (cutS z lo hi)) H)
theorem oSl_ok {g : Gs} {x : D} {lo hi : Option Int} {st st' : Sto} {z : D} (e : oSl (x, lo, hi) st = some (z, st')) {ms : List Addr} {H : Hp} {v : V} (rs : Rs g ms H st) (hx : Rl g ms H x v) {Q : VK} (h : ∀ ms' H' u, Fw ms H ms' H' → Rs g ms' H' st' → Rl g ms' H' z u → Q u H') : rSlX g.K v lo hi H Q := by
  unfold oSl at e
  split at e
  · rename_i ds h0
    have h0 : x = .tup ds := h0
    subst h0
    cases e
    cases hx with
    | tup hp ha =>
      rename_i p vs
      refine .inl (.inr ⟨p, vs, rfl, .inl (.inl hp), fun q => ?_, fun q b hb => ?_⟩)
      · refine q_here rs h ?_
        rw [cut3_all (by rw [ha.length]; exact q)]
        exact .tup hp ha
      · obtain ⟨fw, rs2⟩ := rs.fresh (o := .tup (cutV vs lo hi)) hb
        exact h _ _ _ fw rs2 (.tup upd_same ((fw.rlA ha).cut lo hi))
  · rename_i w h0
    have h0 : x = .str w := h0
    subst h0
    split at e
    · rename_i hl
      cases e
      cases hx
      exact .inr ⟨w, rfl, hl, q_here rs h (.str _)⟩
    · cases e
  · split at e
    · rename_i ds e1
      cases e
      obtain ⟨p, vs, rfl, hp, ha⟩ := seqL_ok rs hx e1
      refine .inl (.inl ⟨p, vs, rfl, hp, fun b hb => ?_⟩)
      obtain ⟨fw, rs2, r⟩ := rs.alloc (o := .lst (cutV vs lo hi)) (u := .lst (cut3 ds lo hi)) hb fun f e => ⟨_, e, (f.rlA ha).cut lo hi⟩
      exact h _ _ _ fw rs2 r
    · cases e
theorem simE_slice {lo hi : Option Expr} {fl fh : F3 (Option Int)} (ha : SimE c a fa) (hl : SimO c lo fl) (hh : SimO c hi fh) : SimE c (.Subscript a (.Slice lo hi none p2) pos) (fSl fa fl fh) := by
  obtain ⟨ta, pa, ra⟩ := ha
  obtain ⟨tl, pl, rl⟩ := hl
  obtain ⟨th, ph, rh⟩ := hh
  refine ⟨tSl (rSlX c.g.K) ta tl th, fun X o => pe_slice (by rw [← o.K]; exact SlR.or (SlR.or sl_list sl_tupA) sl_str) (pa X o) (pl X o) (ph X o), ?_⟩
  intro env st r st' e ms σ H rs re Q hq
  refine ra.bind e rs re (fun x st1 ms1 H1 fw1 rs1 re1 e1 v hv => ?_) fun c ms1 H1 er fw rs1 => out_er hq er fw rs1
  refine rl.bind e1 rs1 re1 (fun l st2 ms2 H2 fw2 rs2 re2 e2 l' hl => ?_) fun c ms2 H2 er fw2 rs2 => out_er hq er (fw1.trans fw2) rs2
  refine rh.bind e2 rs2 re2 (fun u st3 ms3 H3 fw3 rs3 re3 e3 u' hu => ?_) fun c ms3 H3 er fw3 rs3 => out_er hq er ((fw1.trans fw2).trans fw3) rs3
  cases hl
  cases hu
  unfold lift at e3
  split at e3
  · rename_i z st4 hz
    cases e3
    exact oSl_ok hz rs3 ((fw2.trans fw3).rl hv) fun ms4 H4 w fw4 rs4 hw => hq ms4 H4 (((fw1.trans fw2).trans fw3).trans fw4) rs4 w hw
  · cases e3
end
end S3

set_option maxHeartbeats 2000000
/-! S3E: calls of built-ins and of defs. -/
namespace S3
open PySem PySem.Spec PyProof.Rows L2

/-! ### plain argument lists -/
def plainA : List Expr → Bool
  | [] => true
  | e :: r => plainE e && plainA r
theorem star_any {pos : Pos} {env : Env} : ∀ {es : List Expr}, plainA es = true → (backTo pos (starEach es env)).any (·.1) = false
  | [], _ => rfl
  | e :: r, h => by
    unfold plainA at h
    obtain ⟨h1, h2⟩ := Bool.and_eq_true_iff.mp h
    rw [starEach_plain h1]
    exact star_any h2
theorem star_all {pos : Pos} {env : Env} : ∀ {es : List Expr}, plainA es = true → (backTo pos (starEach es env)).all (fun x => !x.1) = true
  | [], _ => rfl
  | e :: r, h => by
    unfold plainA at h
    obtain ⟨h1, h2⟩ := Bool.and_eq_true_iff.mp h
    rw [starEach_plain h1]
    exact star_all h2
theorem plain_head {e : Expr} {es : List Expr} (h : plainA (e :: es) = true) : plainE e = true ∧ plainA es = true := by
  unfold plainA at h
  exact Bool.and_eq_true_iff.mp h

section
variable {c : Cxt} {a b e : Expr} {es : List Expr} {fa fb : F3 D} {fr : F3 (List D)} {pos p p2 : Pos} {x : Str}
/-- a call of a built-in by its name -/
theorem simE_callB {id : String} {r : List V → Hp → VK → Prop} {o : F1 (List D) D} (hr : ∀ X, OkX c X → CallR X (.builtin id) r) (ho : OpS c.g (RlA c.g) (Rl c.g) r o) (hg : glB c.sc x = true) (hm : c.g.mg x = none) (hv : bootBuiltins x = some (.builtin id)) (ha : SimA c (e :: es) fr)
    (hp : plainA (e :: es) = true := by rfl) (hn : x ≠ "__name__" := by decide +kernel) : SimE c (.Call (.Name x p) (e :: es) [] pos) (fArgs o fr) := by
  obtain ⟨ta, pa, ra⟩ := ha
  obtain ⟨h1, h2⟩ := plain_head hp
  exact ⟨tCB r ta, fun X ok => pe_callB (hr X ok) (ok.gl hg) (by rw [ok.mg]; exact hm) hv (pa X ok) hn (glB_nd hg) (starEach_plain h1) (star_any h2), ra.op1 ho⟩
theorem simE_callTy {T : String} {r : List V → Hp → VK → Prop} {o : F1 (List D) D} (hr : ∀ X, OkX c X → CallR X (.type T) r) (ho : OpS c.g (RlA c.g) (Rl c.g) r o) (hg : glB c.sc x = true) (hm : c.g.mg x = none) (hv : bootBuiltins x = some (.type T)) (ha : SimA c (e :: es) fr)
    (hp : plainA (e :: es) = true := by rfl) (hn : x ≠ "__name__" := by decide +kernel) : SimE c (.Call (.Name x p) (e :: es) [] pos) (fArgs o fr) := by
  obtain ⟨ta, pa, ra⟩ := ha
  obtain ⟨h1, h2⟩ := plain_head hp
  exact ⟨tCB r ta, fun X ok => pe_callTy (hr X ok) (ok.gl hg) (by rw [ok.mg]; exact hm) hv (pa X ok) hn (glB_nd hg) (starEach_plain h1) (star_any h2), ra.op1 ho⟩
end

/-! ### the built-ins -/
theorem RlA.one' {g : Gs} {ms : List Addr} {H : Hp} {d : D} {vs : List V} (r : RlA g ms H [d] vs) : ∃ v, vs = [v] ∧ Rl g ms H d v := by
  cases r with
  | cons h t =>
    cases t
    exact ⟨_, rfl, h⟩
theorem RlA.two' {g : Gs} {ms : List Addr} {H : Hp} {d e : D} {vs : List V} (r : RlA g ms H [d, e] vs) : ∃ v w, vs = [v, w] ∧ Rl g ms H d v ∧ Rl g ms H e w := by
  cases r with
  | cons h t =>
    obtain ⟨w, rfl, h2⟩ := t.one'
    exact ⟨_, _, rfl, h, h2⟩
def oLen : F1 (List D) D := fun p st => match p with
  | [.str z] => if z.length ≤ sizeLine then some (.int z.length, st) else none
  | [x] => match seqA st x with
    | some ds => some (.int ds.length, st)
    | none => none
  | _ => none
abbrev rLenX (K : PySem.W.Frag) : List V → Hp → VK → Prop := fun xs H Q => (∃ p ys, xs = [.ref p] ∧ (SqL K H p ys ∨ SqT K H p ys) ∧ Q (.int ys.length) H) ∨ (∃ z, xs = [.str z] ∧ z.length ≤ sizeLine ∧ Q (.int z.length) H)
theorem opS_len {g : Gs} : OpS g (RlA g) (Rl g) (rLenX g.K) oLen := by
  intro ds st z st' e ms H vs rs hv Q h
  unfold oLen at e
  split at e
  · obtain ⟨v, rfl, hv1⟩ := hv.one'
    clear hv
    have hv := hv1
    clear hv1
    split at e
    · rename_i hl
      cases e
      cases hv
      exact .inr ⟨_, rfl, hl, q_here rs h (.int _)⟩
    · cases e
  · obtain ⟨v, rfl, hv1⟩ := hv.one'
    clear hv
    have hv := hv1
    clear hv1
    split at e
    · rename_i es e1
      cases e
      obtain ⟨p, us, rfl, hp, ha⟩ := seqA_ok rs hv e1
      exact .inl ⟨p, us, rfl, hp, q_here rs h (by rw [← ha.length]; exact .int _)⟩
    · cases e
  · cases e
def oAbs : F1 (List D) D := fun p st => match p with
  | [.int i] => some (.int (if i < 0 then -i else i), st)
  | _ => none
theorem opS_abs {g : Gs} : OpS g (RlA g) (Rl g) (fun xs H Q => ∃ i, xs = [.int i] ∧ Q (.int (if i < 0 then -i else i)) H) oAbs := by
  intro ds st z st' e ms H vs rs hv Q h
  unfold oAbs at e
  split at e
  · obtain ⟨v, rfl, hv1⟩ := hv.one'
    clear hv
    have hv := hv1
    clear hv1
    cases e
    cases hv
    exact ⟨_, rfl, q_here rs h (.int _)⟩
  · cases e
def oInt1 : F1 (List D) D := fun p st => match p with
  | [.int i] => some (.int i, st)
  | [.bl b] => some (.int (if b then 1 else 0), st)
  | _ => none
theorem opS_int1 {g : Gs} : OpS g (RlA g) (Rl g) (fun xs H Q => (∃ i, xs = [.int i] ∧ Q (.int i) H) ∨ ∃ k, xs = [.bl k] ∧ Q (.int (if k then 1 else 0)) H) oInt1 := by
  intro ds st z st' e ms H vs rs hv Q h
  unfold oInt1 at e
  split at e
  · obtain ⟨v, rfl, hv1⟩ := hv.one'
    clear hv
    have hv := hv1
    clear hv1
    cases e
    cases hv
    exact .inl ⟨_, rfl, q_here rs h (.int _)⟩
  · obtain ⟨v, rfl, hv1⟩ := hv.one'
    clear hv
    have hv := hv1
    clear hv1
    cases e
    cases hv
    exact .inr ⟨_, rfl, q_here rs h (.int _)⟩
  · cases e
/-- least, greatest -/
def minL : List Int → Int
  | [] => 0
  | [a] => a
  | a :: r => if minL r < a then minL r else a
def maxL : List Int → Int
  | [] => 0
  | [a] => a
  | a :: r => if a < maxL r then maxL r else a
theorem minL_spec : ∀ (ns : List Int), ns ≠ [] → minL ns ∈ ns ∧ ∀ y ∈ ns, minL ns ≤ y
  | [], h => absurd rfl h
  | [a], _ => ⟨by simp [minL], fun y hy => by simp at hy; simp [minL, hy]⟩
  | a :: b :: r, _ => by
    obtain ⟨h1, h2⟩ := minL_spec (b :: r) (by simp)
    show (if minL (b :: r) < a then minL (b :: r) else a) ∈ _ ∧ ∀ y ∈ _, (if minL (b :: r) < a then minL (b :: r) else a) ≤ y
    by_cases h : minL (b :: r) < a
    · rw [if_pos h]
      refine ⟨List.mem_cons_of_mem _ h1, fun y hy => ?_⟩
      rcases List.mem_cons.mp hy with rfl | hy
      · exact Int.le_of_lt h
      · exact h2 y hy
    · rw [if_neg h]
      refine ⟨List.mem_cons_self, fun y hy => ?_⟩
      rcases List.mem_cons.mp hy with rfl | hy
      · exact Int.le_refl _
      · exact Int.le_trans (Int.not_lt.mp h) (h2 y hy)
theorem maxL_spec : ∀ (ns : List Int), ns ≠ [] → maxL ns ∈ ns ∧ ∀ y ∈ ns, y ≤ maxL ns
  | [], h => absurd rfl h
  | [a], _ => ⟨by simp [maxL], fun y hy => by simp at hy; simp [maxL, hy]⟩
  | a :: b :: r, _ => by
    obtain ⟨h1, h2⟩ := maxL_spec (b :: r) (by simp)
    show (if a < maxL (b :: r) then maxL (b :: r) else a) ∈ _ ∧ ∀ y ∈ _, y ≤ (if a < maxL (b :: r) then maxL (b :: r) else a)
    by_cases h : a < maxL (b :: r)
    · rw [if_pos h]
      refine ⟨List.mem_cons_of_mem _ h1, fun y hy => ?_⟩
      rcases List.mem_cons.mp hy with rfl | hy
      · exact Int.le_of_lt h
      · exact h2 y hy
    · rw [if_neg h]
      refine ⟨List.mem_cons_self, fun y hy => ?_⟩
      rcases List.mem_cons.mp hy with rfl | hy
      · exact Int.le_refl _
      · exact Int.le_trans (h2 y hy) (Int.not_lt.mp h)
theorem seqInts {g : Gs} {ms : List Addr} {H : Hp} {st : Sto} {d : D} {ds : List D} {is : List Int} {v : V} (rs : Rs g ms H st) (r : Rl g ms H d v) (h : seqL st d = some ds) (hi : intsOf ds = some is) : ∃ p, v = .ref p ∧ SqL g.K H p (is.map V.int) := by
  obtain ⟨p, vs, rfl, hp, ha⟩ := seqL_ok rs r h
  rw [intsOf_ok hi ha] at hp
  exact ⟨p, rfl, hp⟩
def oMin : F1 (List D) D := fun p st => match p with
  | [.int i, .int j] => some (.int (if j < i then j else i), st)
  | [x] => match seqL st x with
    | some ds => match intsOf ds with
      | some is => if is ≠ [] then some (.int (minL is), st) else none
      | none => none
    | none => none
  | _ => none
def oMax : F1 (List D) D := fun p st => match p with
  | [.int i, .int j] => some (.int (if j > i then j else i), st)
  | [x] => match seqL st x with
    | some ds => match intsOf ds with
      | some is => if is ≠ [] then some (.int (maxL is), st) else none
      | none => none
    | none => none
  | _ => none
theorem opS_min {g : Gs} : OpS g (RlA g) (Rl g) (fun xs H Q => (∃ i j, xs = [.int i, .int j] ∧ Q (.int (if j < i then j else i)) H) ∨ rMin g.K xs H Q) oMin := by
  intro ds st z st' e ms H vs rs hv Q h
  unfold oMin at e
  split at e
  · obtain ⟨v, w, rfl, hv1, hw⟩ := hv.two'
    clear hv
    have hv := hv1
    clear hv1
    cases e
    cases hv
    cases hw
    exact .inl ⟨_, _, rfl, q_here rs h (.int _)⟩
  · obtain ⟨v, rfl, hv1⟩ := hv.one'
    clear hv
    have hv := hv1
    clear hv1
    split at e
    · rename_i es e1
      split at e
      · rename_i is e2
        split at e
        · rename_i hne
          cases e
          obtain ⟨p, rfl, hp⟩ := seqInts rs hv e1 e2
          refine .inr ⟨p, is, rfl, hp, List.length_pos_iff.mpr hne, fun m hm hall => ?_⟩
          obtain ⟨k1, k2⟩ := minL_spec is hne
          rw [show m = minL is from Int.le_antisymm (hall _ k1) (k2 _ hm)]
          exact q_here rs h (.int _)
        · cases e
      · cases e
    · cases e
  · cases e
theorem opS_max {g : Gs} : OpS g (RlA g) (Rl g) (fun xs H Q => (∃ i j, xs = [.int i, .int j] ∧ Q (.int (if j > i then j else i)) H) ∨ rMax g.K xs H Q) oMax := by
  intro ds st z st' e ms H vs rs hv Q h
  unfold oMax at e
  split at e
  · obtain ⟨v, w, rfl, hv1, hw⟩ := hv.two'
    clear hv
    have hv := hv1
    clear hv1
    cases e
    cases hv
    cases hw
    exact .inl ⟨_, _, rfl, q_here rs h (.int _)⟩
  · obtain ⟨v, rfl, hv1⟩ := hv.one'
    clear hv
    have hv := hv1
    clear hv1
    split at e
    · rename_i es e1
      split at e
      · rename_i is e2
        split at e
        · rename_i hne
          cases e
          obtain ⟨p, rfl, hp⟩ := seqInts rs hv e1 e2
          refine .inr ⟨p, is, rfl, hp, List.length_pos_iff.mpr hne, fun m hm hall => ?_⟩
          obtain ⟨k1, k2⟩ := maxL_spec is hne
          rw [show m = maxL is from Int.le_antisymm (k2 _ hm) (hall _ k1)]
          exact q_here rs h (.int _)
        · cases e
      · cases e
    · cases e
  · cases e
/-- isinstance -/
def tyD (st : Sto) : D → Option String
  | .non => some "NoneType"
  | .bl _ => some "bool"
  | .int _ => some "int"
  | .str _ => some "str"
  | .tup _ => some "tuple"
  | .tcon _ => some "tuple"
  | .loc n => match st[n]? with
    | some (.lst _) => some "list"
    | some (.dK _) => some "dict"
    | some (.dT _) => some "dict"
    | none => none
  | _ => none
theorem tyD_ok {g : Gs} {ms : List Addr} {H : Hp} {st : Sto} {d : D} {T : String} {v : V} (rs : Rs g ms H st) (r : Rl g ms H d v) (h : tyD st d = some T) : TyX g.K H v (.type T) := by
  cases r with
  | non => cases h; exact .base .non
  | bl b => cases h; exact .base (.bl b)
  | int b => cases h; exact .base (.int b)
  | str b => cases h; exact .base (.str b)
  | tup hp _ => cases h; exact .base (.tup hp)
  | tcon hp _ => cases h; exact (hp H).2
  | lcon hp _ => cases h
  | @loc n a hm =>
    unfold tyD at h
    simp only at h
    split at h
    · rename_i e
      cases h
      obtain ⟨vs, h1, h2⟩ := rs.at_ _ _ _ e hm
      exact .base (.lst h1)
    · rename_i e
      cases h
      obtain ⟨vs, h1, h2⟩ := rs.at_ _ _ _ e hm
      exact .base (.dK h1)
    · rename_i e
      cases h
      obtain ⟨vs, h1, h2⟩ := rs.at_ _ _ _ e hm
      exact .base (.dT h1)
    · cases h
  | exn _ => cases h
  | fn _ => cases h
  | cl _ => cases h
  | ty _ => cases h
def oIsi : F1 (List D) D := fun p st => match p with
  | [x, .ty T] => match tyD st x with
    | some a => match kitB a T with
      | some b => some (.bl b, st)
      | none => none
    | none => none
  | _ => none
theorem opS_isi {g : Gs} : OpS g (RlA g) (Rl g) (rIsi g.K) oIsi := by
  intro ds st z st' e ms H vs rs hv Q h
  unfold oIsi at e
  split at e
  · obtain ⟨v, w, rfl, hv1, hw⟩ := hv.two'
    clear hv
    have hv := hv1
    clear hv1
    split at e
    · rename_i a e1
      split at e
      · rename_i b e2
        cases e
        cases hw
        exact ⟨v, _, .type a, .type _, b, rfl, .ty _, tyD_ok rs hv e1, kit_ty e2, q_here rs h (.bl _)⟩
      · cases e
    · cases e
  · cases e
/-- tuple(x), list(x) -/
def oTuple : F1 (List D) D := fun p st => match p with
  | [.tup ds] => some (.tup ds, st)
  | [x] => match seqL st x with
    | some ds => some (.tup ds, st)
    | none => none
  | _ => none
theorem opS_tuple {g : Gs} : OpS g (RlA g) (Rl g) (fun xs H Q => ∃ p ys, xs = [.ref p] ∧ ((SqL g.K H p ys ∧ ∀ l, H l = none → Q (.ref l) (upd H l (.tup ys))) ∨ (SqT g.K H p ys ∧ Q (.ref p) H))) oTuple := by
  intro ds st z st' e ms H vs rs hv Q h
  unfold oTuple at e
  split at e
  · obtain ⟨v, rfl, hv1⟩ := hv.one'
    clear hv
    have hv := hv1
    clear hv1
    cases e
    cases hv with
    | tup hp ha => exact ⟨_, _, rfl, .inr ⟨.inl (.inl hp), q_here rs h (.tup hp ha)⟩⟩
  · obtain ⟨v, rfl, hv1⟩ := hv.one'
    clear hv
    have hv := hv1
    clear hv1
    split at e
    · rename_i es e1
      cases e
      obtain ⟨p, us, rfl, hp, ha⟩ := seqL_ok rs hv e1
      refine ⟨p, us, rfl, .inl ⟨hp, fun b hb => ?_⟩⟩
      obtain ⟨fw, rs2⟩ := rs.fresh (o := .tup us) hb
      exact h _ _ _ fw rs2 (.tup upd_same (fw.rlA ha))
    · cases e
  · cases e
def oList : F1 (List D) D := fun p st => match p with
  | [x] => match seqA st x with
    | some ds => some (.loc st.length, st ++ [.lst ds])
    | none => none
  | _ => none
theorem opS_list {g : Gs} : OpS g (RlA g) (Rl g) (fun xs H Q => ∃ p ys, xs = [.ref p] ∧ (SqL g.K H p ys ∨ SqT g.K H p ys) ∧ ∀ l, H l = none → Q (.ref l) (upd H l (.lst ys))) oList := by
  intro ds st z st' e ms H vs rs hv Q h
  unfold oList at e
  split at e
  · obtain ⟨v, rfl, hv1⟩ := hv.one'
    clear hv
    have hv := hv1
    clear hv1
    split at e
    · rename_i es e1
      cases e
      obtain ⟨p, us, rfl, hp, ha⟩ := seqA_ok rs hv e1
      refine ⟨p, us, rfl, hp, fun b hb => ?_⟩
      obtain ⟨fw, rs2, r⟩ := rs.alloc (o := .lst us) (u := .lst _) hb fun f e => ⟨us, e, f.rlA ha⟩
      exact h _ _ _ fw rs2 r
    · cases e
  · cases e
/-- all, any -/
def blsOf : List D → Option (List Bool)
  | [] => some []
  | .bl i :: r => match blsOf r with
    | some is => some (i :: is)
    | none => none
  | _ => none
theorem blsOf_ok {g : Gs} {ms : List Addr} {H : Hp} : ∀ {ds : List D} {is : List Bool} {vs : List V}, blsOf ds = some is → RlA g ms H ds vs → vs = is.map V.bl
  | [], is, vs, h, r => by
    cases r
    unfold blsOf at h
    cases h
    rfl
  | .bl i :: ds, is, vs, h, r => by
    cases r with
    | cons r1 r2 =>
      unfold blsOf at h
      split at h
      · rename_i js e
        cases h
        cases r1
        rw [blsOf_ok e r2]
        rfl
      · cases h
  | .non :: ds, is, vs, h, r => by simp [blsOf] at h
  | .int _ :: ds, is, vs, h, r => by simp [blsOf] at h
  | .str _ :: ds, is, vs, h, r => by simp [blsOf] at h
  | .tup _ :: ds, is, vs, h, r => by simp [blsOf] at h
  | .tcon _ :: ds, is, vs, h, r => by simp [blsOf] at h
  | .lcon _ :: ds, is, vs, h, r => by simp [blsOf] at h
  | .loc _ :: ds, is, vs, h, r => by simp [blsOf] at h
  | .exn _ :: ds, is, vs, h, r => by simp [blsOf] at h
  | .fn _ :: ds, is, vs, h, r => by simp [blsOf] at h
  | .cl _ :: ds, is, vs, h, r => by simp [blsOf] at h
  | .ty _ :: ds, is, vs, h, r => by simp [blsOf] at h
def oAll : F1 (List D) D := fun p st => match p with
  | [x] => match seqL st x with
    | some ds => match blsOf ds with
      | some bs => some (.bl (bs.all id), st)
      | none => none
    | none => none
  | _ => none
theorem opS_all {g : Gs} : OpS g (RlA g) (Rl g) (rAll g.K) oAll := by
  intro ds st z st' e ms H vs rs hv Q h
  unfold oAll at e
  split at e
  · obtain ⟨v, rfl, hv1⟩ := hv.one'
    clear hv
    have hv := hv1
    clear hv1
    split at e
    · rename_i es e1
      split at e
      · rename_i bs e2
        cases e
        obtain ⟨p, us, rfl, hp, ha⟩ := seqL_ok rs hv e1
        rw [blsOf_ok e2 ha] at hp
        exact ⟨p, bs, rfl, hp, q_here rs h (.bl _)⟩
      · cases e
    · cases e
  · cases e
def oAny : F1 (List D) D := fun p st => match p with
  | [x] => match seqL st x with
    | some ds => match blsOf ds with
      | some bs => some (.bl (bs.any id), st)
      | none => none
    | none => none
  | _ => none
theorem opS_any {g : Gs} : OpS g (RlA g) (Rl g) (rAny g.K) oAny := by
  intro ds st z st' e ms H vs rs hv Q h
  unfold oAny at e
  split at e
  · obtain ⟨v, rfl, hv1⟩ := hv.one'
    clear hv
    have hv := hv1
    clear hv1
    split at e
    · rename_i es e1
      split at e
      · rename_i bs e2
        cases e
        obtain ⟨p, us, rfl, hp, ha⟩ := seqL_ok rs hv e1
        rw [blsOf_ok e2 ha] at hp
        exact ⟨p, bs, rfl, hp, q_here rs h (.bl _)⟩
      · cases e
    · cases e
  · cases e
/-- sorted: ints of any number, texts below 64 -/
def isort : List Int → List Int := fun l => l.mergeSort (fun a b => decide (a ≤ b))
theorem isort_perm (l : List Int) : (isort l).Perm l := List.mergeSort_perm _ _
theorem isort_sorted (l : List Int) : (isort l).Pairwise (· ≤ ·) := by
  have h := List.pairwise_mergeSort (le := fun a b : Int => decide (a ≤ b)) (fun a b c h1 h2 => by simp only [decide_eq_true_eq] at *; omega) (fun a b => by simp only [Bool.or_eq_true, decide_eq_true_eq]; omega) l
  exact h.imp fun h => of_decide_eq_true h
theorem isort_unique {l l' : List Int} (h1 : l'.Perm l) (h2 : l'.Pairwise (· ≤ ·)) : l' = isort l :=
  (h1.trans (isort_perm l).symm).eq_of_pairwise (fun x y _ _ h1 h2 => Int.le_antisymm h1 h2) h2 (isort_sorted l)
def oSorted : F1 (List D) D := fun p st => match p with
  | [x] => match seqL st x with
    | some ds => match intsOf ds with
      | some is => some (.loc st.length, st ++ [.lst ((isort is).map D.int)])
      | none => none
    | none => none
  | _ => none
theorem rlA_ints {g : Gs} {ms : List Addr} {H : Hp} : ∀ is : List Int, RlA g ms H (is.map D.int) (is.map V.int)
  | [] => .nil
  | i :: r => .cons (.int i) (rlA_ints r)
theorem opS_sorted {g : Gs} : OpS g (RlA g) (Rl g) (rSortedI g.K) oSorted := by
  intro ds st z st' e ms H vs rs hv Q h
  unfold oSorted at e
  split at e
  · obtain ⟨v, rfl, hv1⟩ := hv.one'
    clear hv
    have hv := hv1
    clear hv1
    split at e
    · rename_i es e1
      split at e
      · rename_i is e2
        cases e
        obtain ⟨p, rfl, hp⟩ := seqInts rs hv e1 e2
        refine ⟨p, is, rfl, hp, fun ns' b k1 k2 hb => ?_⟩
        rw [isort_unique k1 k2]
        obtain ⟨fw, rs2, r⟩ := rs.alloc (o := .lst ((isort is).map V.int)) (u := .lst ((isort is).map D.int)) hb fun f e => ⟨_, e, rlA_ints _⟩
        exact h _ _ _ fw rs2 r
      · cases e
    · cases e
  · cases e
/-- str of an int -/
def oStrI : F1 (List D) D := fun p st => match p with
  | [.int i] => if i.natAbs.log2 < 1920 then some (.str (toString i), st) else none
  | _ => none
theorem opS_strI {g : Gs} : OpS g (RlA g) (Rl g) (fun xs H Q => ∃ i, xs = [.int i] ∧ i.natAbs.log2 < 1920 ∧ Q (.str (toString i)) H) oStrI := by
  intro ds st z st' e ms H vs rs hv Q h
  unfold oStrI at e
  split at e
  · obtain ⟨v, rfl, hv1⟩ := hv.one'
    clear hv
    have hv := hv1
    clear hv1
    split at e
    · rename_i hl
      cases e
      cases hv
      exact ⟨_, rfl, hl, q_here rs h (.str _)⟩
    · cases e
  · cases e
section
variable {c : Cxt} {a b e : Expr} {es : List Expr} {fa fb : F3 D} {fr : F3 (List D)} {pos p p2 : Pos}
theorem simE_len (hg : glB c.sc "len" = true) (hm : c.g.mg "len" = none) (ha : SimA c (e :: es) fr) (hp : plainA (e :: es) = true := by rfl) : SimE c (.Call (.Name "len" p) (e :: es) [] pos) (fArgs oLen fr) := simE_callB (fun X o => by rw [← o.K]; exact CallR.or call_len_seq call_len_str) opS_len hg hm PySem.boot_len ha hp
theorem simE_abs (hg : glB c.sc "abs" = true) (hm : c.g.mg "abs" = none) (ha : SimA c (e :: es) fr) (hp : plainA (e :: es) = true := by rfl) : SimE c (.Call (.Name "abs" p) (e :: es) [] pos) (fArgs oAbs fr) := simE_callB (fun X o => call_abs) opS_abs hg hm (by decide +kernel) ha hp
theorem simE_min (hg : glB c.sc "min" = true) (hm : c.g.mg "min" = none) (ha : SimA c (e :: es) fr) (hp : plainA (e :: es) = true := by rfl) : SimE c (.Call (.Name "min" p) (e :: es) [] pos) (fArgs oMin fr) := simE_callB (fun X o => by rw [← o.K]; exact CallR.or (call_min2 o.calm) (cr_min o.calm)) opS_min hg hm (by decide +kernel) ha hp
theorem simE_max (hg : glB c.sc "max" = true) (hm : c.g.mg "max" = none) (ha : SimA c (e :: es) fr) (hp : plainA (e :: es) = true := by rfl) : SimE c (.Call (.Name "max" p) (e :: es) [] pos) (fArgs oMax fr) := simE_callB (fun X o => by rw [← o.K]; exact CallR.or (call_max2 o.calm) (cr_max o.calm)) opS_max hg hm (by decide +kernel) ha hp
theorem simE_intOf (hg : glB c.sc "int" = true) (hm : c.g.mg "int" = none) (ha : SimA c (e :: es) fr) (hp : plainA (e :: es) = true := by rfl) : SimE c (.Call (.Name "int" p) (e :: es) [] pos) (fArgs oInt1 fr) := simE_callTy (fun X o => call_int1) opS_int1 hg hm (by decide +kernel) ha hp
theorem simE_isi (hg : glB c.sc "isinstance" = true) (hm : c.g.mg "isinstance" = none) (ha : SimA c (e :: es) fr) (hp : plainA (e :: es) = true := by rfl) : SimE c (.Call (.Name "isinstance" p) (e :: es) [] pos) (fArgs oIsi fr) := simE_callB (fun X o => by rw [← o.K]; exact call_isi) opS_isi hg hm (by decide +kernel) ha hp
theorem simE_tupleOf (hg : glB c.sc "tuple" = true) (hm : c.g.mg "tuple" = none) (ha : SimA c (e :: es) fr) (hp : plainA (e :: es) = true := by rfl) : SimE c (.Call (.Name "tuple" p) (e :: es) [] pos) (fArgs oTuple fr) := simE_callTy (fun X o => by rw [← o.K]; exact call_tuple_of) opS_tuple hg hm (by decide +kernel) ha hp
theorem simE_listOf (hg : glB c.sc "list" = true) (hm : c.g.mg "list" = none) (ha : SimA c (e :: es) fr) (hp : plainA (e :: es) = true := by rfl) : SimE c (.Call (.Name "list" p) (e :: es) [] pos) (fArgs oList fr) := simE_callTy (fun X o => by rw [← o.K]; exact call_list_of) opS_list hg hm (by decide +kernel) ha hp
theorem simE_all (hg : glB c.sc "all" = true) (hm : c.g.mg "all" = none) (ha : SimA c (e :: es) fr) (hp : plainA (e :: es) = true := by rfl) : SimE c (.Call (.Name "all" p) (e :: es) [] pos) (fArgs oAll fr) := simE_callB (fun X o => by rw [← o.K]; exact cr_all o.calm) opS_all hg hm (by decide +kernel) ha hp
theorem simE_any (hg : glB c.sc "any" = true) (hm : c.g.mg "any" = none) (ha : SimA c (e :: es) fr) (hp : plainA (e :: es) = true := by rfl) : SimE c (.Call (.Name "any" p) (e :: es) [] pos) (fArgs oAny fr) := simE_callB (fun X o => by rw [← o.K]; exact cr_any o.calm) opS_any hg hm (by decide +kernel) ha hp
theorem simE_sorted (hg : glB c.sc "sorted" = true) (hm : c.g.mg "sorted" = none) (ha : SimA c (e :: es) fr) (hp : plainA (e :: es) = true := by rfl) : SimE c (.Call (.Name "sorted" p) (e :: es) [] pos) (fArgs oSorted fr) := simE_callB (fun X o => by rw [← o.K]; exact cr_sortedI) opS_sorted hg hm (by decide +kernel) ha hp
theorem simE_strOf (hg : glB c.sc "str" = true) (hm : c.g.mg "str" = none) (ha : SimA c (e :: es) fr) (hp : plainA (e :: es) = true := by rfl) : SimE c (.Call (.Name "str" p) (e :: es) [] pos) (fArgs oStrI fr) := simE_callTy (fun X o => call_str_int) opS_strI hg hm (by decide +kernel) ha hp
end
end S3

set_option maxHeartbeats 2000000
/-! S3F: dicts, methods of lists, stores into things. -/
namespace S3
open PySem PySem.Spec PyProof.Rows L2

/-! ### keys, look-up, put -/
def keyK : D → Option Key
  | .int i => some (.inl i)
  | .str x => some (.inr x)
  | _ => none
def keyT : D → Option (List Key)
  | .tup ds => mapO keyK ds
  | _ => none
theorem keyK_ok {g : Gs} {ms : List Addr} {H : Hp} {d : D} {k : Key} {v : V} (r : Rl g ms H d v) (h : keyK d = some k) : v = kV k := by
  unfold keyK at h
  split at h <;> first | (cases h; cases r; rfl) | cases h
theorem keyA_ok {g : Gs} {ms : List Addr} {H : Hp} : ∀ {ds : List D} {ks : List Key} {vs : List V}, RlA g ms H ds vs → mapO keyK ds = some ks → vs = ks.map kV
  | [], ks, vs, r, h => by
    cases r
    cases h
    rfl
  | d :: ds, ks, vs, r, h => by
    cases r with
    | cons r1 r2 =>
      unfold mapO at h
      split at h
      · rename_i e1 e2
        cases h
        rw [keyK_ok r1 e1, keyA_ok r2 e2]
        rfl
      · cases h
theorem keyT_ok {g : Gs} {ms : List Addr} {H : Hp} {d : D} {k : List Key} {v : V} (r : Rl g ms H d v) (h : keyT d = some k) : ∃ b, v = .ref b ∧ H b = some (.tup (k.map kV)) := by
  unfold keyT at h
  split at h
  · cases r with
    | tup hp ha => exact ⟨_, rfl, by rw [hp, keyA_ok ha h]⟩
  · cases h
section
variable {κ α : Type} [DecidableEq κ]
def valG (kvs : List (κ × α)) (k : κ) : Option α := (kvs.find? fun kv => decide (kv.1 = k)).map (·.2)
def putG (kvs : List (κ × α)) (k : κ) (v : α) : List (κ × α) := if (kvs.any fun kv => decide (kv.1 = k)) = true then kvs.map (fun kv => if kv.1 = k then (kv.1, v) else kv) else kvs ++ [(k, v)]
end
def mergeG {α : Type} (kvs more : List (Key × α)) : List (Key × α) := more.foldl (fun acc kv => putG acc kv.1 kv.2) kvs
section
variable {g : Gs} {ms : List Addr} {H : Hp} {κ : Type} [DecidableEq κ]
theorem RKv.length {ks : List (κ × D)} {vs : List (κ × V)} (r : RKv g ms H ks vs) : ks.length = vs.length := Paired.length r
theorem RKv.val : ∀ {ks : List (κ × D)} {vs : List (κ × V)} (k : κ), RKv g ms H ks vs → (valG ks k = none ∧ valV vs k = none) ∨ ∃ d v, valG ks k = some d ∧ valV vs k = some v ∧ Rl g ms H d v
  | _, _, k, .nil => .inl ⟨rfl, rfl⟩
  | p :: ks, q :: vs, k, .cons r t => by
    by_cases e : p.1 = k
    · refine .inr ⟨p.2, q.2, ?_, ?_, r.2⟩
      · simp [valG, List.find?_cons, e]
      · exact valV_pos (r.1 ▸ e)
    · have e2 : ¬ q.1 = k := fun z => e (r.1.trans z)
      have h1 : valG (p :: ks) k = valG ks k := by simp [valG, List.find?_cons, e]
      rw [h1, valV_neg e2]
      exact RKv.val k t
theorem RKv.any (k : κ) : ∀ {ks : List (κ × D)} {vs : List (κ × V)}, RKv g ms H ks vs → (ks.any fun kv => decide (kv.1 = k)) = (vs.any fun kv => decide (kv.1 = k))
  | _, _, .nil => rfl
  | p :: ks, q :: vs, .cons r t => by
    rw [List.any_cons, List.any_cons, r.1, RKv.any k t]
theorem RKv.map (k : κ) {d : D} {v : V} (hr : Rl g ms H d v) : ∀ {ks : List (κ × D)} {vs : List (κ × V)}, RKv g ms H ks vs → RKv g ms H (ks.map fun kv => if kv.1 = k then (kv.1, d) else kv) (vs.map fun kv => if kv.1 = k then (kv.1, v) else kv)
  | _, _, .nil => .nil
  | p :: ks, q :: vs, .cons r t => by
    rw [List.map_cons, List.map_cons]
    refine .cons ?_ (RKv.map k hr t)
    by_cases e : p.1 = k
    · rw [if_pos e, if_pos (r.1 ▸ e)]
      exact ⟨r.1, hr⟩
    · rw [if_neg e, if_neg fun z => e (r.1.trans z)]
      exact r
theorem RKv.snoc {d : D} {v : V} (hr : Rl g ms H d v) (k : κ) : ∀ {ks : List (κ × D)} {vs : List (κ × V)}, RKv g ms H ks vs → RKv g ms H (ks ++ [(k, d)]) (vs ++ [(k, v)])
  | _, _, .nil => .cons ⟨rfl, hr⟩ .nil
  | p :: ks, q :: vs, .cons r t => .cons r (RKv.snoc hr k t)
theorem RKv.put {ks : List (κ × D)} {vs : List (κ × V)} {d : D} {v : V} (k : κ) (r : RKv g ms H ks vs) (hr : Rl g ms H d v) : RKv g ms H (putG ks k d) (putK vs k v) := by
  unfold putG putK
  rw [r.any k]
  by_cases h : (vs.any fun kv => decide (kv.1 = k)) = true
  · rw [if_pos h, if_pos h]
    exact r.map k hr
  · rw [if_neg h, if_neg h]
    exact r.snoc hr k
end
/-- what a dict holds at a key -/
def dget (st : Sto) (d k : D) : Option (Option D) := match d with
  | .loc n => match st[n]? with
    | some (.dK kvs) => match keyK k with
      | some key => some (valG kvs key)
      | none => none
    | some (.dT kvs) => match keyT k with
      | some key => some (valG kvs key)
      | none => none
    | _ => none
  | _ => none
theorem dget_ok {g : Gs} {ms : List Addr} {H : Hp} {st : Sto} {d k : D} {o : Option D} {vd vk : V} (rs : Rs g ms H st) (rd : Rl g ms H d vd) (rk : Rl g ms H k vk) (h : dget st d k = some o) :
    ∃ a ov, vd = .ref a ∧ DGet H a vk ov ∧ ((o = none ∧ ov = none) ∨ ∃ e v, o = some e ∧ ov = some v ∧ Rl g ms H e v) := by
  unfold dget at h
  split at h
  · split at h
    · rename_i kvs e0
      split at h
      · rename_i key ek
        cases h
        cases rd with
        | loc hm =>
          obtain ⟨vs, h1, h2⟩ := rs.at_ _ _ _ e0 hm
          rw [keyK_ok rk ek]
          rcases h2.val key with ⟨z1, z2⟩ | ⟨d, v, z1, z2, z3⟩
          · exact ⟨_, none, rfl, .inl ⟨vs, key, .inl h1, rfl, z2.symm⟩, .inl ⟨z1, rfl⟩⟩
          · exact ⟨_, some v, rfl, .inl ⟨vs, key, .inl h1, rfl, z2.symm⟩, .inr ⟨d, v, z1, rfl, z3⟩⟩
      · cases h
    · rename_i kvs e0
      split at h
      · rename_i key ek
        cases h
        cases rd with
        | loc hm =>
          obtain ⟨vs, h1, h2⟩ := rs.at_ _ _ _ e0 hm
          obtain ⟨b, rfl, hb⟩ := keyT_ok rk ek
          rcases h2.val key with ⟨z1, z2⟩ | ⟨d, v, z1, z2, z3⟩
          · exact ⟨_, none, rfl, .inr ⟨vs, key, b, .inl h1, rfl, hb, z2.symm⟩, .inl ⟨z1, rfl⟩⟩
          · exact ⟨_, some v, rfl, .inr ⟨vs, key, b, .inl h1, rfl, hb, z2.symm⟩, .inr ⟨d, v, z1, rfl, z3⟩⟩
      · cases h
    · cases h
  · cases h
def oDget : F1 (D × D) D := fun p st => match dget st p.1 p.2 with
  | some (some d) => some (d, st)
  | _ => none
theorem opS_dget {g : Gs} : OpS g (Rl2 g) (Rl g) (fun p H Q => ∃ a v, p.1 = .ref a ∧ DGet H a p.2 (some v) ∧ Q v H) oDget := by
  rintro ⟨x, y⟩ st z st' e ms H ⟨vx, vy⟩ rs ⟨hx, hy⟩ Q h
  unfold oDget at e
  split at e
  · rename_i d e1
    cases e
    obtain ⟨a, ov, rfl, hg, z⟩ := dget_ok rs hx hy e1
    rcases z with ⟨z, _⟩ | ⟨e, v, z1, rfl, z2⟩
    · cases z
    · cases z1
      exact ⟨a, v, rfl, hg, q_here rs h z2⟩
  · cases e
/-- the dict stands behind -/
def oDin (neg : Bool) : F1 (D × D) D := fun p st => match dget st p.2 p.1 with
  | some o => some (.bl (if neg then !o.isSome else o.isSome), st)
  | none => none
theorem opS_din {g : Gs} : OpS g (Rl2 g) (Rl g) (fun p H Q => ∃ a o, p.2 = .ref a ∧ DGet H a p.1 o ∧ Q (.bl o.isSome) H) (oDin false) := by
  rintro ⟨x, y⟩ st z st' e ms H ⟨vx, vy⟩ rs ⟨hx, hy⟩ Q h
  unfold oDin at e
  split at e
  · rename_i o e1
    cases e
    obtain ⟨a, ov, rfl, hg, z⟩ := dget_ok rs hy hx e1
    rcases z with ⟨rfl, rfl⟩ | ⟨e, v, rfl, rfl, z2⟩
    · exact ⟨a, none, rfl, hg, q_here rs h (.bl _)⟩
    · exact ⟨a, some v, rfl, hg, q_here rs h (.bl _)⟩
  · cases e
theorem opS_dnotin {g : Gs} : OpS g (Rl2 g) (Rl g) (fun p H Q => ∃ a o, p.2 = .ref a ∧ DGet H a p.1 o ∧ Q (.bl (!o.isSome)) H) (oDin true) := by
  rintro ⟨x, y⟩ st z st' e ms H ⟨vx, vy⟩ rs ⟨hx, hy⟩ Q h
  unfold oDin at e
  split at e
  · rename_i o e1
    cases e
    obtain ⟨a, ov, rfl, hg, z⟩ := dget_ok rs hy hx e1
    rcases z with ⟨rfl, rfl⟩ | ⟨e, v, rfl, rfl, z2⟩
    · exact ⟨a, none, rfl, hg, q_here rs h (.bl _)⟩
    · exact ⟨a, some v, rfl, hg, q_here rs h (.bl _)⟩
  · cases e
section
variable {c : Cxt} {a b e : Expr} {es : List Expr} {fa fb fc : F3 D} {fr : F3 (List D)} {pos p p2 apos cpos : Pos}
theorem simE_dget (ha : SimE c a fa) (hb : SimE c b fb) (hs : NoSl b := by intro _ _; rfl) : SimE c (.Subscript a b pos) (fB oDget fa fb) := by
  obtain ⟨ta, pa, ra⟩ := ha
  obtain ⟨tb, pb, rb⟩ := hb
  exact ⟨tDGet ta tb, fun X o => pe_dget o.hu (pa X o) (pb X o) hs, ra.op2 (r := fun x y H Q => ∃ a v, x = .ref a ∧ DGet H a y (some v) ∧ Q v H) rb opS_dget⟩
theorem simE_din (ha : SimE c a fa) (hb : SimE c b fb) (hm : behindInMarks .In b = false := by with_unfolding_all rfl) : SimE c (.Compare a [.In] [b] pos) (fB (oDin false) fa fb) := by
  obtain ⟨ta, pa, ra⟩ := ha
  obtain ⟨tb, pb, rb⟩ := hb
  exact ⟨tDIn ta tb, fun X o => pe_cmp (pc_din o.hu (pa X o) (pb X o)) hm, ra.op2 (r := fun x y H Q => ∃ a o, y = .ref a ∧ DGet H a x o ∧ Q (.bl o.isSome) H) rb opS_din⟩
theorem simT_din (ha : SimE c a fa) (hb : SimE c b fb) (hm : behindInMarks .In b = false := by with_unfolding_all rfl) : SimT c (.Compare a [.In] [b] pos) (bnd (fB (oDin false) fa fb) asB) := by
  obtain ⟨ta, pa, ra⟩ := ha
  obtain ⟨tb, pb, rb⟩ := hb
  exact ⟨tB (tDIn ta tb), fun X o => pt_cmp (pc_din o.hu (pa X o) (pb X o)) hm, (ra.op2 (r := fun x y H Q => ∃ a o, y = .ref a ∧ DGet H a x o ∧ Q (.bl o.isSome) H) rb opS_din).tB⟩
theorem simT_dnin (ha : SimE c a fa) (hb : SimE c b fb) (hm : behindInMarks .NotIn b = false := by with_unfolding_all rfl) : SimT c (.Compare a [.NotIn] [b] pos) (bnd (fB (oDin true) fa fb) asB) := by
  obtain ⟨ta, pa, ra⟩ := ha
  obtain ⟨tb, pb, rb⟩ := hb
  exact ⟨tB (tDNotIn ta tb), fun X o => pt_cmp (pc_dnotin o.hu (pa X o) (pb X o)) hm, (ra.op2 (r := fun x y H Q => ∃ a o, y = .ref a ∧ DGet H a x o ∧ Q (.bl (!o.isSome)) H) rb opS_dnotin).tB⟩
/-- new dicts -/
def fNewK : F3 D := fun _ st => some (.ok (.loc st.length), st ++ [.dK []])
def fNewT : F3 D := fun _ st => some (.ok (.loc st.length), st ++ [.dT []])
theorem simE_newK : SimE c (.Dict [] [] pos) fNewK := by
  refine ⟨tDNewK, fun X o => pe_dnewK, ?_⟩
  intro env st r st' e ms σ H rs re Q hq p hp
  cases e
  obtain ⟨fw, rs2, q⟩ := rs.alloc (o := .dK []) (u := .dK []) hp fun f e => ⟨[], e, .nil⟩
  exact hq _ _ fw rs2 _ q
theorem simE_newT : SimE c (.Dict [] [] pos) fNewT := by
  refine ⟨tDNewT, fun X o => pe_dnewT, ?_⟩
  intro env st r st' e ms σ H rs re Q hq p hp
  cases e
  obtain ⟨fw, rs2, q⟩ := rs.alloc (o := .dT []) (u := .dT []) hp fun f e => ⟨[], e, .nil⟩
  exact hq _ _ fw rs2 _ q
/-- a display -/
abbrev RlP (g : Gs) (ms : List Addr) (H : Hp) : List (D × D) → List (V × V) → Prop := Paired fun p q => Rl g ms H p.1 q.1 ∧ Rl g ms H p.2 q.2
def SimP (c : Cxt) (pos : Pos) (ks : List (Option Expr)) (vs : List Expr) (f : F3 (List (D × D))) : Prop := ∃ trs : List (TE × TE), (∀ X, OkX c X → PPs X pos ks vs trs) ∧ Rd c.g c.E (RlP c.g) (tPairs trs) f
def fPairNil : F3 (List (D × D)) := ret3 []
def fPair (fk fv : F3 D) (fr : F3 (List (D × D))) : F3 (List (D × D)) := bnd fk fun k => bnd fv fun v => bnd fr fun r => ret3 ((k, v) :: r)
theorem simP_nil : SimP c pos [] [] fPairNil := ⟨[], fun X o => pps_nil, Rd.ret (fun _ _ => .nil) fun _ _ _ h => by cases h; rfl⟩
theorem simP_cons {ks : List (Option Expr)} {vs : List Expr} {fp : F3 (List (D × D))} (ha : SimE c a fa) (hb : SimE c b fb) (h : SimP c pos ks vs fp) : SimP c pos (some a :: ks) (b :: vs) (fPair fa fb fp) := by
  obtain ⟨ta, pa, ra⟩ := ha
  obtain ⟨tb, pb, rb⟩ := hb
  obtain ⟨tr, pr, rr⟩ := h
  refine ⟨(ta, tb) :: tr, fun X o => pps_cons (pa X o) (pb X o) (pr X o), ?_⟩
  intro env st r st' e ms σ H rs re Q hq
  refine ra.bind e rs re (fun x st1 ms1 H1 fw1 rs1 re1 e1 v hv => ?_) fun c ms1 H1 er fw rs1 => out_er hq er fw rs1
  refine rb.bind e1 rs1 re1 (fun y st2 ms2 H2 fw2 rs2 re2 e2 w hw => ?_) fun c ms2 H2 er fw2 rs2 => out_er hq er (fw1.trans fw2) rs2
  refine rr.bind e2 rs2 re2 (fun z st3 ms3 H3 fw3 rs3 re3 e3 u hu => ?_) fun c ms3 H3 er fw3 rs3 => out_er hq er ((fw1.trans fw2).trans fw3) rs3
  cases e3
  exact hq ms3 H3 ((fw1.trans fw2).trans fw3) rs3 _ (.cons ⟨(fw2.trans fw3).rl hv, fw3.rl hw⟩ hu)
def keysP : List (D × D) → Option (List (Key × D))
  | [] => some []
  | (k, v) :: r => match keyK k, keysP r with
    | some key, some rest => some ((key, v) :: rest)
    | _, _ => none
theorem keysP_ok {g : Gs} {ms : List Addr} {H : Hp} : ∀ {ps : List (D × D)} {kvs : List (Key × D)} {qs : List (V × V)}, keysP ps = some kvs → RlP g ms H ps qs → ∃ us, qs = us.map (fun kv => (kV kv.1, kv.2)) ∧ RKv g ms H kvs us
  | [], kvs, qs, h, r => by
    cases r
    cases h
    exact ⟨[], rfl, .nil⟩
  | (k, v) :: ps, kvs, qs, h, r => by
    cases r with
    | @cons _ q _ qs r1 r2 =>
      unfold keysP at h
      split at h
      · rename_i key rest e1 e2
        cases h
        obtain ⟨us, rfl, h2⟩ := keysP_ok e2 r2
        refine ⟨(key, q.2) :: us, ?_, .cons ⟨rfl, r1.2⟩ h2⟩
        have e3 := keyK_ok r1.1 e1
        rw [List.map_cons]
        congr 1
        exact Prod.ext e3 rfl
      · cases h
theorem RKv.merge {g : Gs} {ms : List Addr} {H : Hp} : ∀ {more : List (Key × D)} {us : List (Key × V)} {ks : List (Key × D)} {vs : List (Key × V)}, RKv g ms H more us → RKv g ms H ks vs → RKv g ms H (mergeG ks more) (mergeK vs us)
  | _, _, ks, vs, .nil, r => r
  | (k, d) :: more, (k2, u) :: us, ks, vs, .cons h t, r => by
    have hk : k = k2 := h.1
    subst hk
    exact @RKv.merge g ms H more us (putG ks k d) (putK vs k u) t (r.put k h.2)
def fDisp (fp : F3 (List (D × D))) : F3 D := fun env st => match fp env (st ++ [.dK []]) with
  | some (.ok ps, st1) => match st1[st.length]? with
    | some (.dK []) => match keysP ps with
      | some kvs => if kvs.length ≤ 15 then some (.ok (.loc st.length), st1.set st.length (.dK (mergeG [] kvs))) else none
      | none => none
    | _ => none
  | _ => none
theorem simE_disp {ks : List (Option Expr)} {vs : List Expr} {fp : F3 (List (D × D))} (h : SimP c pos ks vs fp) (hall : ks.all (·.isSome) = true := by rfl) (hl : ks.length = vs.length := by rfl) (h0 : ks ≠ [] := by intro z; cases z) (h15 : ks.length ≤ 15 := by decide) : SimE c (.Dict ks vs pos) (fDisp fp) := by
  obtain ⟨tr, pr, rr⟩ := h
  refine ⟨tDisp tr, fun X o => pe_disp (pr X o) hall hl h0 h15, ?_⟩
  intro env st r st' e ms σ H rs re Q hq p hp
  unfold fDisp at e
  split at e
  · rename_i ps st1 e1
    split at e
    · rename_i e2
      split at e
      · rename_i kvs e3
        split at e
        · rename_i hle
          cases e
          obtain ⟨fw, rs1, q⟩ := rs.alloc (o := .dK []) (u := .dK []) hp fun f e => ⟨[], e, .nil⟩
          refine rr env _ _ _ e1 (ms ++ [p]) σ (upd H p (.dK [])) rs1 (re.mono fw) _ fun ms2 H2 fw2 rs2 qs hqs => ?_
          have hpm : ms2[st.length]? = some p := by
            obtain ⟨t, rfl⟩ := fw2.ms
            rw [← rs.len, List.append_assoc, List.getElem?_append_right (Nat.le_refl _), Nat.sub_self]
            rfl
          obtain ⟨vs2, h1, h2⟩ := rs2.at_ _ _ _ e2 hpm
          cases h2
          obtain ⟨us, rfl, hus⟩ := keysP_ok e3 hqs
          refine ⟨h1, us, rfl, by rw [← hus.length]; exact hle, ?_⟩
          obtain ⟨fw3, rs3⟩ := rs2.put (o := .dK (mergeK [] us)) (u := .dK (mergeG [] kvs)) e2 hpm fun f e => ⟨_, e, (hus.mono f).merge .nil⟩
          exact hq _ _ ((fw.trans fw2).trans fw3) rs3 _ (.loc hpm)
        · cases e
      · cases e
    · cases e
  · cases e
/-- d.get(k), d.get(k, x) -/
def oDget1 : F1 (D × D) D := fun p st => match dget st p.1 p.2 with
  | some o => some (o.getD .non, st)
  | none => none
def isD3 (st : Sto) (d : D) : Bool := match d with
  | .loc n => match st[n]? with
    | some (.dK _) => true
    | some (.dT _) => true
    | _ => false
  | _ => false
theorem isD3_ok {g : Gs} {ms : List Addr} {H : Hp} {st : Sto} {d : D} {v : V} (rs : Rs g ms H st) (r : Rl g ms H d v) (h : isD3 st d = true) : ∃ a, v = .ref a ∧ IsD H a := by
  unfold isD3 at h
  split at h
  · split at h
    · rename_i e
      cases r with
      | loc hm =>
        obtain ⟨vs, h1, _⟩ := rs.at_ _ _ _ e hm
        exact ⟨_, rfl, .inl ⟨_, .inl h1⟩⟩
    · rename_i e
      cases r with
      | loc hm =>
        obtain ⟨vs, h1, _⟩ := rs.at_ _ _ _ e hm
        exact ⟨_, rfl, .inr ⟨_, .inl h1⟩⟩
    · cases h
  · cases h
def fDget1 (fa fb : F3 D) : F3 D := bnd fa fun x env st => if isD3 st x = true then bnd fb (fun y => lift oDget1 (x, y)) env st else none
theorem few_ok {pos : Pos} {env : Env} {es : List Expr} (h : plainA es = true) (hl : es.length + 0 + 0 < 30) : ((backTo pos (starEach es env)).all (fun x => !x.1) && (backToKw pos (keywordEach [] env)).all (fun x => x.1.isSome) && decide (es.length + ([] : List Keyword).length + (if ([] : List Keyword).isEmpty then 0 else 1) < 30)) = true := by
  rw [star_all h]
  have : decide (es.length + ([] : List Keyword).length + (if ([] : List Keyword).isEmpty then 0 else 1) < 30) = true := decide_eq_true hl
  rw [this]
  rfl
theorem simE_dget1 (ha : SimE c a fa) (hb : SimE c b fb) (hbase : ∀ env : Env, attributeBase a "get" env (eval a env) = eval a env := by intro _; rfl) (hp : plainE b = true := by rfl) (hl : (apos.endLine == cpos.line) = true := by rfl) : SimE c (.Call (.Attribute a "get" apos) [b] [] cpos) (fDget1 fa fb) := by
  obtain ⟨ta, pa, ra⟩ := ha
  obtain ⟨tb, pb, rb⟩ := hb
  refine ⟨tDGet1 ta tb, fun X o => pe_dget1 o.hu (pa X o) (pb X o) ⟨hbase _, few_ok (by unfold plainA; rw [hp]; rfl) (show 1 < 30 by decide), hl, by rw [starEach_plain hp]; rfl⟩, ?_⟩
  intro env st r st' e ms σ H rs re Q hq
  refine ra.bind e rs re (fun x st1 ms1 H1 fw1 rs1 re1 e1 v hv => ?_) fun c ms1 H1 er fw rs1 => out_er hq er fw rs1
  split at e1
  · rename_i hd
    obtain ⟨p, rfl, hD⟩ := isD3_ok rs1 hv hd
    refine ⟨p, rfl, hD, ?_⟩
    refine rb.bind e1 rs1 re1 (fun y st2 ms2 H2 fw2 rs2 re2 e2 w hw => ?_) fun c ms2 H2 er fw2 rs2 => out_er hq er (fw1.trans fw2) rs2
    unfold lift oDget1 at e2
    split at e2
    · rename_i z st3 hz
      cases e2
      split at hz
      · rename_i o e3
        cases hz
        obtain ⟨a', ov, ea, hg, z⟩ := dget_ok rs2 (fw2.rl hv) hw e3
        cases ea
        rcases z with ⟨rfl, rfl⟩ | ⟨e, v, rfl, rfl, z2⟩
        · exact ⟨none, hg, hq ms2 H2 (fw1.trans fw2) rs2 _ .non⟩
        · exact ⟨some v, hg, hq ms2 H2 (fw1.trans fw2) rs2 _ z2⟩
      · cases hz
    · cases e2
  · cases e1

/-! ### methods of lists -/
def fMeth (o : F1 (D × List D) D) (fa : F3 D) (fr : F3 (List D)) : F3 D := bnd fa fun x env st => match seqL st x with
  | some _ => bnd fr (fun ys => lift o (x, ys)) env st
  | none => none
abbrev RlM (g : Gs) (ms : List Addr) (H : Hp) (p : D × List D) (q : V × List V) : Prop := Rl g ms H p.1 q.1 ∧ RlA g ms H p.2 q.2
theorem rd_meth {g : Gs} {E : XK} {to : TE} {t : TA} {r : V → List V → Hp → VK → Prop} {o : F1 (D × List D) D} (ho : OpS g (RlM g) (Rl g) (fun p H Q => r p.1 p.2 H Q) o) (ha : Rd g E (Rl g) to fa) (hr : Rd g E (RlA g) t fr) : Rd g E (Rl g) (tBM g.K "list" r to t) (fMeth o fa fr) := by
  intro env st rr st' e ms σ H rs re Q hq
  refine ha.bind e rs re (fun x st1 ms1 H1 fw1 rs1 re1 e1 v hv => ?_) fun c ms1 H1 er fw rs1 => out_er hq er fw rs1
  split at e1
  · rename_i ds hd
    obtain ⟨p, vs, rfl, hp, hvs⟩ := seqL_ok rs1 hv hd
    refine ⟨.inl ⟨rfl, vs, hp⟩, ?_⟩
    refine hr.bind e1 rs1 re1 (fun ys st2 ms2 H2 fw2 rs2 re2 e2 us hus => ?_) fun c ms2 H2 er fw2 rs2 => out_er hq er (fw1.trans fw2) rs2
    unfold lift at e2
    split at e2
    · rename_i z st3 hz
      cases e2
      exact ho (x, ys) st2 _ _ hz ms2 H2 (.ref p, us) rs2 ⟨fw2.rl hv, hus⟩ Q fun ms3 H3 u fw3 rs3 hu => hq ms3 H3 ((fw1.trans fw2).trans fw3) rs3 u hu
    · cases e2
  · cases e1
theorem rd_meth0 {g : Gs} {E : XK} {to : TE} {r : V → List V → Hp → VK → Prop} {o : F1 (D × List D) D} (ho : OpS g (RlM g) (Rl g) (fun p H Q => r p.1 p.2 H Q) o) (ha : Rd g E (Rl g) to fa) : Rd g E (Rl g) (tBM0 g.K "list" r to) (fMeth o fa fNil) := by
  intro env st rr st' e ms σ H rs re Q hq
  refine ha.bind e rs re (fun x st1 ms1 H1 fw1 rs1 re1 e1 v hv => ?_) fun c ms1 H1 er fw rs1 => out_er hq er fw rs1
  split at e1
  · rename_i ds hd
    obtain ⟨p, vs, rfl, hp, hvs⟩ := seqL_ok rs1 hv hd
    refine ⟨.inl ⟨rfl, vs, hp⟩, ?_⟩
    unfold fNil bnd ret3 lift at e1
    simp only at e1
    split at e1
    · rename_i z st3 hz
      cases e1
      exact ho (x, []) st1 _ _ hz ms1 H1 (.ref p, []) rs1 ⟨hv, .nil⟩ Q fun ms3 H3 u fw3 rs3 hu => hq ms3 H3 (fw1.trans fw3) rs3 u hu
    · cases e1
  · cases e1
theorem simE_meth {id : String} {name : Str} {r : V → List V → Hp → VK → Prop} {o : F1 (D × List D) D} (slot : Slot "list" name id) (hty : typeOf (.builtin id) = pure (.type "method_descriptor")) (hr : ∀ X, OkX c X → MtR X id r) (ho : OpS c.g (RlM c.g) (Rl c.g) (fun p H Q => r p.1 p.2 H Q) o)
    (ha : SimE c a fa) (hb : SimA c (e :: es) fr) (hbase : ∀ env : Env, attributeBase a name env (eval a env) = eval a env) (hl : (apos.endLine == cpos.line) = true) (hp : plainA (e :: es) = true) (hn : (e :: es).length + 0 + 0 < 30) : SimE c (.Call (.Attribute a name apos) (e :: es) [] cpos) (fMeth o fa fr) := by
  obtain ⟨ta, pa, ra⟩ := ha
  obtain ⟨tb, pb, rb⟩ := hb
  obtain ⟨h1, h2⟩ := plain_head hp
  exact ⟨tBM c.g.K "list" r ta tb, fun X ok => by rw [← ok.K]; exact pe_bm PySem.F.plainAttrs_list slot hty (hr X ok) (pa X ok) (pb X ok) (hbase _) (few_ok hp hn) hl (starEach_plain h1) (star_any h2), rd_meth ho ra rb⟩
theorem simE_meth0 {id : String} {name : Str} {r : V → List V → Hp → VK → Prop} {o : F1 (D × List D) D} (slot : Slot "list" name id) (hty : typeOf (.builtin id) = pure (.type "method_descriptor")) (hr : ∀ X, OkX c X → MtR X id r) (ho : OpS c.g (RlM c.g) (Rl c.g) (fun p H Q => r p.1 p.2 H Q) o)
    (ha : SimE c a fa) (hbase : ∀ env : Env, attributeBase a name env (eval a env) = eval a env) (hl : (apos.endLine == cpos.line) = true) : SimE c (.Call (.Attribute a name apos) [] [] cpos) (fMeth o fa fNil) := by
  obtain ⟨ta, pa, ra⟩ := ha
  exact ⟨tBM0 c.g.K "list" r ta, fun X ok => by rw [← ok.K]; exact pe_bm0 PySem.F.plainAttrs_list slot hty (hr X ok) (pa X ok) (hbase _) hl, rd_meth0 ho ra⟩
def oApp : F1 (D × List D) D := fun p st => match p.2 with
  | [y] => match ownL st p.1 with
    | some (n, ds) => if ds.length < sizeLine then some (.non, st.set n (.lst (ds ++ [y]))) else none
    | none => none
  | _ => none
theorem opS_app {g : Gs} : OpS g (RlM g) (Rl g) (fun p H Q => rAppend p.1 p.2 H Q) oApp := by
  rintro ⟨x, ys⟩ st z st' e ms H ⟨vx, vys⟩ rs ⟨hx, hys⟩ Q h
  unfold oApp at e
  split at e
  · rename_i y h0
    have h0 : ys = [y] := h0
    subst h0
    obtain ⟨vy, ey, hy⟩ := hys.one'
    have ey : vys = [vy] := ey
    subst ey
    split at e
    · rename_i n ds e1
      split at e
      · rename_i hl
        cases e
        obtain ⟨e0, p, vs, ex, hm, hp, ha⟩ := ownL_ok rs hx e1
        obtain ⟨fw, rs2⟩ := rs.put (o := .lst (vs ++ [vy])) (u := .lst (ds ++ [y])) e0 hm fun f e => ⟨_, e, (f.rlA ha).append (.one (f.rl hy))⟩
        exact ⟨p, vs, vy, ex, rfl, hp, by rw [← ha.length]; exact hl, h _ _ _ fw rs2 .non⟩
      · cases e
    · cases e
  · cases e
def oPopAt : F1 (D × List D) D := fun p st => match p.2 with
  | [.int i] => match ownL st p.1 with
    | some (n, ds) => if -(2 ^ 63) ≤ i ∧ i < 2 ^ 63 then match seqIndex? i ds.length with
        | some k => match ds[k]? with
          | some y => some (y, st.set n (.lst (ds.eraseIdx k)))
          | none => none
        | none => none
      else none
    | none => none
  | _ => none
theorem opS_popAt {g : Gs} : OpS g (RlM g) (Rl g) (fun p H Q => rPopAt p.1 p.2 H Q) oPopAt := by
  rintro ⟨x, ys⟩ st z st' e ms H ⟨vx, vys⟩ rs ⟨hx, hys⟩ Q h
  unfold oPopAt at e
  split at e
  · rename_i i h0
    have h0 : ys = [.int i] := h0
    subst h0
    obtain ⟨vy, ey, hy⟩ := hys.one'
    have ey : vys = [vy] := ey
    subst ey
    cases hy
    split at e
    · rename_i n ds e1
      split at e
      · rename_i hb
        split at e
        · rename_i k hk
          split at e
          · rename_i y hy
            cases e
            obtain ⟨e0, p, vs, ex, hm, hp, ha⟩ := ownL_ok rs hx e1
            obtain ⟨v, hv1, hv2⟩ := ha.get hy
            obtain ⟨fw, rs2⟩ := rs.put (o := .lst (vs.eraseIdx k)) (u := .lst (ds.eraseIdx k)) e0 hm fun f e => ⟨_, e, (f.rlA ha).eraseIdx k⟩
            exact ⟨p, vs, i, k, v, ex, rfl, hp, hb.1, hb.2, by rw [← ha.length]; exact hk, hv1, h _ _ _ fw rs2 (fw.rl hv2)⟩
          · cases e
        · cases e
      · cases e
    · cases e
  · cases e
theorem RlA.dropLast {g : Gs} {ms : List Addr} {H : Hp} {ds : List D} {vs : List V} (r : RlA g ms H ds vs) : RlA g ms H ds.dropLast vs.dropLast := by
  rw [List.dropLast_eq_take, List.dropLast_eq_take, r.length]
  exact r.take _
def oPop : F1 (D × List D) D := fun p st => match p.2 with
  | [] => match ownL st p.1 with
    | some (n, ds) => match ds[ds.length - 1]? with
      | some y => some (y, st.set n (.lst ds.dropLast))
      | none => none
    | none => none
  | _ => none
theorem opS_pop {g : Gs} : OpS g (RlM g) (Rl g) (fun p H Q => rPop p.1 p.2 H Q) oPop := by
  rintro ⟨x, ys⟩ st z st' e ms H ⟨vx, vys⟩ rs ⟨hx, hys⟩ Q h
  unfold oPop at e
  split at e
  · rename_i h0
    have h0 : ys = [] := h0
    subst h0
    cases hys
    split at e
    · rename_i n ds e1
      split at e
      · rename_i y hy
        cases e
        obtain ⟨e0, p, vs, ex, hm, hp, ha⟩ := ownL_ok rs hx e1
        obtain ⟨v, hv1, hv2⟩ := ha.get hy
        obtain ⟨fw, rs2⟩ := rs.put (o := .lst vs.dropLast) (u := .lst ds.dropLast) e0 hm fun f e => ⟨_, e, (f.rlA ha).dropLast⟩
        exact ⟨p, vs, v, ex, rfl, hp, by rw [← ha.length]; exact hv1, h _ _ _ fw rs2 (fw.rl hv2)⟩
      · cases e
    · cases e
  · cases e
def oExt : F1 (D × List D) D := fun p st => match p.2 with
  | [y] => match ownL st p.1, ownL st y with
    | some (n, ds), some (_, es) => if ds.length + es.length ≤ sizeLine then some (.non, st.set n (.lst (ds ++ es))) else none
    | _, _ => none
  | _ => none
theorem opS_ext {g : Gs} : OpS g (RlM g) (Rl g) (fun p H Q => rExtend p.1 p.2 H Q) oExt := by
  rintro ⟨x, ys⟩ st z st' e ms H ⟨vx, vys⟩ rs ⟨hx, hys⟩ Q h
  unfold oExt at e
  split at e
  · rename_i y h0
    have h0 : ys = [y] := h0
    subst h0
    obtain ⟨vy, ey, hy⟩ := hys.one'
    have ey : vys = [vy] := ey
    subst ey
    split at e
    · rename_i n ds n2 es e1 e2
      split at e
      · rename_i hl
        cases e
        obtain ⟨e0, p, vs, ex, hm, hp, ha⟩ := ownL_ok rs hx e1
        obtain ⟨_, q, us, ey, _, hq, hb⟩ := ownL_ok rs hy e2
        obtain ⟨fw, rs2⟩ := rs.put (o := .lst (vs ++ us)) (u := .lst (ds ++ es)) e0 hm fun f e => ⟨_, e, (f.rlA ha).append (f.rlA hb)⟩
        exact ⟨p, q, vs, us, ex, by rw [ey], hp, hq, by rw [← ha.length, ← hb.length]; exact hl, h _ _ _ fw rs2 .non⟩
      · cases e
    · cases e
  · cases e
theorem simE_append (ha : SimE c a fa) (hb : SimA c [e] fr) (hbase : ∀ env : Env, attributeBase a "append" env (eval a env) = eval a env := by intro _; rfl) (hl : (apos.endLine == cpos.line) = true := by rfl) (hp : plainA [e] = true := by rfl) : SimE c (.Call (.Attribute a "append" apos) [e] [] cpos) (fMeth oApp fa fr) :=
  simE_meth PySem.F.slot_list_append PySem.F.type_list_append (fun X o => mt_append) opS_app ha hb hbase hl hp (show 1 < 30 by decide)
theorem simE_extend (ha : SimE c a fa) (hb : SimA c [e] fr) (hbase : ∀ env : Env, attributeBase a "extend" env (eval a env) = eval a env := by intro _; rfl) (hl : (apos.endLine == cpos.line) = true := by rfl) (hp : plainA [e] = true := by rfl) : SimE c (.Call (.Attribute a "extend" apos) [e] [] cpos) (fMeth oExt fa fr) :=
  simE_meth PySem.F.slot_list_extend PySem.F.type_list_extend (fun X o => mt_extend) opS_ext ha hb hbase hl hp (show 1 < 30 by decide)
theorem simE_popAt (ha : SimE c a fa) (hb : SimA c [e] fr) (hbase : ∀ env : Env, attributeBase a "pop" env (eval a env) = eval a env := by intro _; rfl) (hl : (apos.endLine == cpos.line) = true := by rfl) (hp : plainA [e] = true := by rfl) : SimE c (.Call (.Attribute a "pop" apos) [e] [] cpos) (fMeth oPopAt fa fr) :=
  simE_meth PySem.F.slot_list_pop PySem.F.type_list_pop (fun X o => mt_popAt) opS_popAt ha hb hbase hl hp (show 1 < 30 by decide)
theorem simE_pop (ha : SimE c a fa) (hbase : ∀ env : Env, attributeBase a "pop" env (eval a env) = eval a env := by intro _; rfl) (hl : (apos.endLine == cpos.line) = true := by rfl) : SimE c (.Call (.Attribute a "pop" apos) [] [] cpos) (fMeth oPop fa fNil) :=
  simE_meth0 PySem.F.slot_list_pop PySem.F.type_list_pop (fun X o => mt_pop) opS_pop ha hbase hl

/-! ### x[i] = v, by values -/
def oSet (st : Sto) (o i v : D) : Option Sto := match o with
  | .loc n => match st[n]? with
    | some (.lst ds) => match i with
      | .int k => match ixN ds.length k with
        | some j => some (st.set n (.lst (ds.set j v)))
        | none => none
      | _ => none
    | some (.dK kvs) => match keyK i with
      | some key => if kvs.length < sizeLine then some (st.set n (.dK (putG kvs key v))) else none
      | none => none
    | some (.dT kvs) => match keyT i with
      | some key => if kvs.length < sizeLine then some (st.set n (.dT (putG kvs key v))) else none
      | none => none
    | none => none
  | _ => none
def rSetX : TSet := fun o i v H Q => rSetL o i v H Q ∨ rSetD o i v H Q
theorem set_x {X : Cx} (hu : X.A.units + 1 < cLine) : PSet X rSetX := by
  intro pins s σ H o i v ov iv u Q I ro ri rv h
  rcases h with h | h
  · exact set_list pins s σ H o i v ov iv u Q I ro ri rv h
  · exact set_dict hu pins s σ H o i v ov iv u Q I ro ri rv h
theorem oSet_ok {g : Gs} {ms : List Addr} {H : Hp} {st st' : Sto} {o i v : D} {vo vi vv : V} (rs : Rs g ms H st) (ho : Rl g ms H o vo) (hi : Rl g ms H i vi) (hv : Rl g ms H v vv) (e : oSet st o i v = some st') {Q : Hp → Prop} (h : ∀ H', Fw ms H ms H' → Rs g ms H' st' → Q H') : rSetX vo vi vv H Q := by
  unfold oSet at e
  split at e
  · split at e
    · rename_i n ds e0
      split at e
      · rename_i k
        split at e
        · rename_i j ej
          cases e
          cases ho with
          | loc hm =>
            cases hi
            obtain ⟨vs, h1, h2⟩ := rs.at_ _ _ _ e0 hm
            obtain ⟨fw, rs2⟩ := rs.put (o := .lst (vs.set j vv)) (u := .lst (ds.set j v)) e0 hm fun f e => ⟨_, e, (f.rlA h2).set (f.rl hv) j⟩
            exact .inl ⟨_, vs, k, j, rfl, rfl, h1, by rw [← h2.length]; exact ej, h _ fw rs2⟩
        · cases e
      · cases e
    · rename_i n kvs e0
      split at e
      · rename_i key ek
        split at e
        · rename_i hl
          cases e
          cases ho with
          | loc hm =>
            obtain ⟨vs, h1, h2⟩ := rs.at_ _ _ _ e0 hm
            obtain ⟨fw, rs2⟩ := rs.put (o := .dK (putK vs key vv)) (u := .dK (putG kvs key v)) e0 hm fun f e => ⟨_, e, (h2.mono f).put key (f.rl hv)⟩
            refine .inr ⟨_, _, rfl, ?_, h _ fw rs2⟩
            rw [keyK_ok hi ek]
            exact DPut.k h1 (by rw [← h2.length]; exact hl)
        · cases e
      · cases e
    · rename_i n kvs e0
      split at e
      · rename_i key ek
        split at e
        · rename_i hl
          cases e
          cases ho with
          | loc hm =>
            obtain ⟨vs, h1, h2⟩ := rs.at_ _ _ _ e0 hm
            obtain ⟨fw, rs2⟩ := rs.put (o := .dT (putK vs key vv)) (u := .dT (putG kvs key v)) e0 hm fun f e => ⟨_, e, (h2.mono f).put key (f.rl hv)⟩
            obtain ⟨b, rfl, hb⟩ := keyT_ok hi ek
            exact .inr ⟨_, _, rfl, DPut.t h1 hb (by rw [← h2.length]; exact hl), h _ fw rs2⟩
        · cases e
      · cases e
    · cases e
  · cases e
end
end S3

set_option maxHeartbeats 2000000
/-! S3G: statements. -/
namespace S3
open PySem PySem.Spec PyProof.Rows L2

inductive Fl where
  | nx
  | rt (d : D)
  | bk
  | ct
  | er (c : Nat)
abbrev FS := Env3 → Sto → Option (Fl × Env3 × Sto)
def OutS (g : Gs) (E : XK) (r : Fl) (Dn : Ends) (ms' : List Addr) (H' : Hp) (σ' : L2.St) : Prop := match r with
  | .nx => Dn.nx σ' H'
  | .bk => Dn.bk σ' H'
  | .ct => Dn.ct σ' H'
  | .rt d => ∀ v, Rl g ms' H' d v → Dn.rt v H'
  | .er c => E (.ref (g.cl c)) none H'
def RdS (g : Gs) (E : XK) (t : TS) (f : FS) : Prop :=
  ∀ env st r env' st', f env st = some (r, env', st') → ∀ ms σ H, Rs g ms H st → Re g ms H env σ → ∀ Dn : Ends,
    (∀ ms' H' σ', Fw ms H ms' H' → Rs g ms' H' st' → Re g ms' H' env' σ' → OutS g E r Dn ms' H' σ') → t Dn σ H
def SimS (c : Cxt) (st : Stmt) (f : FS) : Prop := ∃ t : TS, (∀ X, OkX c X → PS X st t) ∧ RdS c.g c.E t f
def SimSs (c : Cxt) (sts : List Stmt) (f : FS) : Prop := ∃ t : TS, (∀ X, OkX c X → PSs X sts t) ∧ RdS c.g c.E t f

/-! ### rows of statements -/
def fNop : FS := fun env st => some (.nx, env, st)
def fSeq (f1 f2 : FS) : FS := fun env st => match f1 env st with
  | some (.nx, env1, st1) => f2 env1 st1
  | r => r
/-- an expression within a statement -/
def eff {α : Type} (f : F3 α) (k : α → FS) : FS := fun env st => match f env st with
  | some (.ok a, st1) => k a env st1
  | some (.er c, st1) => some (.er c, env, st1)
  | none => none
theorem rd_seq {g : Gs} {E : XK} {t u : TS} {f1 f2 : FS} (h1 : RdS g E t f1) (h2 : RdS g E u f2) : RdS g E (tSeq t u) (fSeq f1 f2) := by
  intro env st r env' st' e ms σ H rs re Dn hq
  unfold fSeq at e
  split at e
  · rename_i env1 st1 e1
    refine h1 env st _ _ _ e1 ms σ H rs re _ fun ms1 H1 σ1 fw1 rs1 re1 => ?_
    exact h2 env1 st1 _ _ _ e ms1 σ1 H1 rs1 re1 Dn fun ms2 H2 σ2 fw2 => hq ms2 H2 σ2 (fw1.trans fw2)
  · rename_i hne
    refine h1 env st _ _ _ e ms σ H rs re _ fun ms1 H1 σ1 fw1 rs1 re1 => ?_
    have q := hq ms1 H1 σ1 fw1 rs1 re1
    cases r with
    | nx => exact absurd e (hne env' st')
    | rt d => exact q
    | bk => exact q
    | ct => exact q
    | er c => exact q
theorem Rd.eff {g : Gs} {E : XK} {α β : Type} {rel : List Addr → Hp → α → β → Prop} {t : L2.St → Hp → (β → Hp → Prop) → Prop} {f : F3 α} {k : α → FS} {env env' : Env3} {st st' : Sto} {r : Fl} {ms : List Addr} {σ : L2.St} {H : Hp} {Q : β → Hp → Prop}
    (h : Rd g E rel t f) (e : S3.eff f k env st = some (r, env', st')) (rs : Rs g ms H st) (re : Re g ms H env σ)
    (ho : ∀ a st1 ms1 H1, Fw ms H ms1 H1 → Rs g ms1 H1 st1 → Re g ms1 H1 env σ → k a env st1 = some (r, env', st') → ∀ b, rel ms1 H1 a b → Q b H1)
    (he : ∀ c ms1 H1, r = .er c → Fw ms H ms1 H1 → Rs g ms1 H1 st' → env' = env → Re g ms1 H1 env σ → E (.ref (g.cl c)) none H1) : t σ H Q := by
  unfold S3.eff at e
  split at e
  · rename_i a st1 hf
    exact h env st (.ok a) st1 hf ms σ H rs re Q fun ms1 H1 fw rs1 b hb => ho a st1 ms1 H1 fw rs1 (re.mono fw) e b hb
  · rename_i c st1 hf
    cases e
    exact h env st (.er c) _ hf ms σ H rs re Q fun ms1 H1 fw rs1 => he c ms1 H1 rfl fw rs1 rfl (re.mono fw)
  · cases e
theorem outS_er {g : Gs} {E : XK} {r : Fl} {Dn : Ends} {ms : List Addr} {H : Hp} {σ : L2.St} {env env' : Env3} {ms' : List Addr} {H' : Hp} {st' : Sto}
    (h : ∀ ms' H' σ', Fw ms H ms' H' → Rs g ms' H' st' → Re g ms' H' env' σ' → OutS g E r Dn ms' H' σ') {c : Nat} (e : r = .er c) (fw : Fw ms H ms' H') (rs : Rs g ms' H' st') (ee : env' = env) (re : Re g ms' H' env σ) : E (.ref (g.cl c)) none H' := by
  subst e
  subst ee
  exact h ms' H' σ fw rs re
section
variable {c : Cxt} {a b e : Expr} {es : List Expr} {s : Stmt} {ss : List Stmt} {f1 f2 : FS} {fa fb : F3 D} {pos p2 : Pos}
theorem simSs_nil : SimSs c [] fNop := ⟨tNext, fun X o => pss_nil, fun env st r env' st' e ms σ H rs re Dn hq => by
  cases e
  exact hq ms H σ (Fw.refl ms H) rs re⟩
theorem simSs_cons (h1 : SimS c s f1) (h2 : SimSs c ss f2) : SimSs c (s :: ss) (fSeq f1 f2) := by
  obtain ⟨t, p, r⟩ := h1
  obtain ⟨u, p2, r2⟩ := h2
  exact ⟨tSeq t u, fun X o => pss_cons (p X o) (p2 X o), rd_seq r r2⟩
theorem simSs_one (h1 : SimS c s f1) : SimSs c [s] f1 := by
  obtain ⟨t, p, r⟩ := h1
  exact ⟨t, fun X o => pss_one (p X o), r⟩
def fPass : FS := fNop
theorem simS_pass : SimS c (.Pass pos) fNop := ⟨tNext, fun X o => ps_pass, fun env st r env' st' e ms σ H rs re Dn hq => by
  cases e
  exact hq ms H σ (Fw.refl ms H) rs re⟩
theorem simS_continue : SimS c (.Continue pos) (fun env st => some (.ct, env, st)) := ⟨tCont, fun X o => ps_continue, fun env st r env' st' e ms σ H rs re Dn hq => by
  cases e
  exact hq ms H σ (Fw.refl ms H) rs re⟩
theorem simS_break : SimS c (.Break pos) (fun env st => some (.bk, env, st)) := ⟨tBreak, fun X o => ps_break, fun env st r env' st' e ms σ H rs re Dn hq => by
  cases e
  exact hq ms H σ (Fw.refl ms H) rs re⟩
def fRet (f : F3 D) : FS := eff f fun d env st => some (.rt d, env, st)
theorem simS_ret (ha : SimE c a fa) : SimS c (.Return (some a) pos) (fRet fa) := by
  obtain ⟨t, p, r⟩ := ha
  refine ⟨tRet t, fun X o => ps_ret (p X o), ?_⟩
  intro env st rr env' st' e ms σ H rs re Dn hq
  refine r.eff e rs re (fun d st1 ms1 H1 fw rs1 re1 e1 v hv => ?_) fun c ms1 H1 er fw rs1 ee re1 => outS_er hq er fw rs1 ee re1
  cases e1
  exact hq ms1 H1 σ fw rs1 re1 v hv
theorem simS_retN : SimS c (.Return none pos) (fun env st => some (.rt .non, env, st)) := ⟨tRetN, fun X o => ps_retN, fun env st r env' st' e ms σ H rs re Dn hq => by
  cases e
  exact hq ms H σ (Fw.refl ms H) rs re _ .non⟩
def fDrop (f : F3 D) : FS := eff f fun _ env st => some (.nx, env, st)
theorem simS_expr (ha : SimE c a fa) (hs : ∀ env : Env, swapsWith a none pos.line env = pure false := by intro _; rfl) : SimS c (.Expr a pos) (fDrop fa) := by
  obtain ⟨t, p, r⟩ := ha
  refine ⟨tDrop t, fun X o => ps_expr (p X o) (hs _), ?_⟩
  intro env st rr env' st' e ms σ H rs re Dn hq
  refine r.eff e rs re (fun d st1 ms1 H1 fw rs1 re1 e1 v hv => ?_) fun c ms1 H1 er fw rs1 ee re1 => outS_er hq er fw rs1 ee re1
  cases e1
  exact hq ms1 H1 σ fw rs1 re1
def fIfS (f : F3 Bool) (f1 f2 : FS) : FS := eff f fun b => if b = true then f1 else f2
theorem simS_if {ft : F3 Bool} {s1 s2 : List Stmt} (hc : SimT c e ft) (h1 : SimSs c s1 f1) (h2 : SimSs c s2 f2) : SimS c (.If e s1 s2 pos) (fIfS ft f1 f2) := by
  obtain ⟨t, p, r⟩ := hc
  obtain ⟨t1, p1, r1⟩ := h1
  obtain ⟨t2, p2, r2⟩ := h2
  refine ⟨tIfS t t1 t2, fun X o => ps_if (p X o) (p1 X o) (p2 X o), ?_⟩
  intro env st rr env' st' e ms σ H rs re Dn hq
  refine r.eff e rs re (fun d st1 ms1 H1 fw rs1 re1 e1 v hv => ?_) fun c ms1 H1 er fw rs1 ee re1 => outS_er hq er fw rs1 ee re1
  cases hv
  cases d with
  | true => exact iteT (r1 env st1 _ _ _ e1 ms1 σ H1 rs1 re1 Dn fun ms2 H2 σ2 fw2 => hq ms2 H2 σ2 (fw.trans fw2))
  | false => exact iteF (r2 env st1 _ _ _ e1 ms1 σ H1 rs1 re1 Dn fun ms2 H2 σ2 fw2 => hq ms2 H2 σ2 (fw.trans fw2))

/-! ### targets -/
abbrev G3 := D → Env3 → Sto → Option (Env3 × Sto)
abbrev Gn3 := List D → Env3 → Sto → Option (Env3 × Sto)
def RdG (g : Gs) {α β : Type} (rel : List Addr → Hp → α → β → Prop) (gt : β → L2.St → Hp → (L2.St → Hp → Prop) → Prop) (f : α → Env3 → Sto → Option (Env3 × Sto)) (W : List Nat) : Prop :=
  ∀ d env st env' st', f d env st = some (env', st') → ∀ ms σ H v, Rs g ms H st → Re g ms H env σ → rel ms H d v → ∀ Q : L2.St → Hp → Prop,
    (∀ ms' H' σ', Fw ms H ms' H' → Rs g ms' H' st' → Re g ms' H' env' σ' → (σ'.length = σ.length ∧ ∀ j, j ∉ W → σ'[j]? = σ[j]?) → Q σ' H') → gt v σ H Q
def SimG (c : Cxt) (tg : Expr) (f : G3) (W : List Nat) : Prop := ∃ t : TG, (∀ X, OkX c X → PG X tg t) ∧ RdG c.g (Rl c.g) t f W
def SimGs (c : Cxt) (tgs : List Expr) (f : Gn3) (W : List Nat) : Prop := ∃ t : TGs, (∀ X, OkX c X → PGs X tgs t) ∧ RdG c.g (RlA c.g) t f W
def gVar (i : Nat) : G3 := fun d env st => some (env.set i (some d), st)
def locB (c : Cxt) (x : Str) : Bool := match c.sc.names.lookup x with
  | some .local => true
  | some .cell => c.own x
  | _ => false
theorem locB_ok {x : Str} (h : locB c x = true) {X : Cx} (o : OkX c X) : Loc X.env.scope x ∧ (X.fn x = true ∨ X.env.scope.names.lookup x = some .local) := by
  unfold locB at h
  rw [o.sc]
  split at h
  · rename_i e
    exact ⟨.inl e, .inr e⟩
  · rename_i e
    exact ⟨.inr e, .inl (o.fn x h)⟩
  · cases h
theorem simG_name (i : Nat) {x : Str} (hi : c.N[i]? = some x) (hx : locB c x = true) : SimG c (.Name x pos) (gVar i) [i] := by
  refine ⟨gName i, fun X o => pg_name (by rw [o.N]; exact o.nd) (by rw [o.N]; exact hi) (locB_ok hx o).1 (locB_ok hx o).2, ?_⟩
  intro d env st env' st' e ms σ H v rs re hd Q hq
  cases e
  exact hq ms H _ (Fw.refl ms H) rs (re.set i hd) ⟨List.length_set, fun j hj => List.getElem?_set_ne (fun z => hj (by simp [z]))⟩
def gNil3 : Gn3 := fun ds env st => match ds with
  | [] => some (env, st)
  | _ => none
def gCons3 (f : G3) (r : Gn3) : Gn3 := fun ds env st => match ds with
  | d :: rest => match f d env st with
    | some (env1, st1) => r rest env1 st1
    | none => none
  | _ => none
theorem simGs_nil : SimGs c [] gNil3 [] := by
  refine ⟨gNil, fun X o => pgs_nil, ?_⟩
  intro d env st env' st' e ms σ H v rs re hd Q hq
  unfold gNil3 at e
  split at e
  · cases e
    cases hd
    exact ⟨rfl, hq ms H σ (Fw.refl ms H) rs re ⟨rfl, fun _ _ => rfl⟩⟩
  · cases e
def tgB (e : Expr) : Bool := match e with
  | .Starred _ _ => false
  | _ => true
theorem simGs_cons {f : G3} {r : Gn3} {W W2 : List Nat} (h1 : SimG c e f W) (h2 : SimGs c es r W2) (hs : ∀ env : Env, (assignEach (e :: es) env).map (·.2) = assign e env :: (assignEach es env).map (·.2) := by intro _; rfl) : SimGs c (e :: es) (gCons3 f r) (W ++ W2) := by
  obtain ⟨t, p, q⟩ := h1
  obtain ⟨u, p2, q2⟩ := h2
  refine ⟨gCons t u, fun X o => pgs_cons (p X o) (p2 X o) (hs _), ?_⟩
  intro d env st env' st' e ms σ H v rs re hd Q hq
  unfold gCons3 at e
  split at e
  · split at e
    · rename_i env1 st1 e1
      cases hd with
      | cons h3 h4 =>
        refine ⟨_, _, rfl, ?_⟩
        refine q _ env st _ _ e1 ms σ H _ rs re h3 _ fun ms1 H1 σ1 fw1 rs1 re1 k1 => ?_
        exact q2 _ env1 st1 _ _ e ms1 σ1 H1 _ rs1 re1 (fw1.rlA h4) _ fun ms2 H2 σ2 fw2 rs2 re2 k2 => hq ms2 H2 σ2 (fw1.trans fw2) rs2 re2 ⟨k2.1.trans k1.1, fun j hj => (k2.2 j fun z => hj (List.mem_append_right _ z)).trans (k1.2 j fun z => hj (List.mem_append_left _ z))⟩
    · cases e
  · cases e
def gTup3 (n : Nat) (f : Gn3) : G3 := fun d env st => match seqT d with
  | some ds => if ds.length = n then f ds env st else none
  | none => none
theorem simG_tup {k} {f : Gn3} {W : List Nat} (n : Nat) (h : SimGs c es f W) (hn : ∀ env : Env, (assignEach es env).length = n := by intro _; rfl) (hst : ∀ env : Env, (assignEach es env).findIdx? (·.1) = none := by intro _; rfl) : SimG c (.Tuple es k pos) (gTup3 n f) W := by
  obtain ⟨t, p, q⟩ := h
  refine ⟨gTup c.g.K n t, fun X o => by rw [← o.K]; exact pg_tup o.calm (p X o) (hn _) (hst _), ?_⟩
  intro d env st env' st' e ms σ H v rs re hd Q hq
  unfold gTup3 at e
  split at e
  · rename_i ds e1
    split at e
    · rename_i hl
      obtain ⟨a, xs, rfl, hp, ha⟩ := seqT_ok hd e1
      exact ⟨a, xs, rfl, hp, by rw [← ha.length]; exact hl, q _ env st _ _ e ms σ H _ rs re ha _ hq⟩
    · cases e
  · cases e
/-- o[i] = .. -/
def gSub3 (fo fi : F3 D) : G3 := fun d env st => match fo env st with
  | some (.ok o, st1) => match fi env st1 with
    | some (.ok i, st2) => match oSet st2 o i d with
      | some st3 => some (env, st3)
      | none => none
    | _ => none
  | _ => none
theorem simG_sub (ha : SimE c a fa) (hb : SimE c b fb) (hsub : ∀ (env : Env) (v : Value), assign (.Subscript a b pos) env v = (do
      let ov ← holding [v] (eval a env)
      let iv ← holding [v, ov] (eval b env)
      standAt pos
      holding [v, ov, iv] (setItem ov iv v)
      release [v, ov, iv] []) := by intro _ _; rfl) : SimG c (.Subscript a b pos) (gSub3 fa fb) [] := by
  obtain ⟨ta, pa, ra⟩ := ha
  obtain ⟨tb, pb, rb⟩ := hb
  refine ⟨gSub ta tb rSetX, fun X o => pg_sub (pa X o) (pb X o) (set_x o.hu) (fun v => hsub X.env v), ?_⟩
  intro d env st env' st' e ms σ H v rs re hd Q hq
  unfold gSub3 at e
  split at e
  · rename_i o st1 e1
    split at e
    · rename_i i st2 e2
      split at e
      · rename_i st3 e3
        cases e
        refine ra env st _ _ e1 ms σ H rs re _ fun ms1 H1 fw1 rs1 vo hvo => ?_
        refine rb env st1 _ _ e2 ms1 σ H1 rs1 (re.mono fw1) _ fun ms2 H2 fw2 rs2 vi hvi => ?_
        exact oSet_ok rs2 (fw2.rl hvo) hvi ((fw1.trans fw2).rl hd) e3 fun H3 fw3 rs3 => hq ms2 H3 σ ((fw1.trans fw2).trans fw3) rs3 (re.mono ((fw1.trans fw2).trans fw3)) ⟨rfl, fun _ _ => rfl⟩
      · cases e
    · cases e
  · cases e

/-! ### assignments -/
def fAsg (f : F3 D) (gt : G3) : FS := eff f fun d env st => match gt d env st with
  | some (env', st') => some (.nx, env', st')
  | none => none
theorem rd_asg {g : Gs} {E : XK} {t : TE} {gt : TG} {f : F3 D} {g3 : G3} {W : List Nat} (h : Rd g E (Rl g) t f) (hg : RdG g (Rl g) gt g3 W) : RdS g E (tAsg t gt) (fAsg f g3) := by
  intro env st rr env' st' e ms σ H rs re Dn hq
  refine h.eff e rs re (fun d st1 ms1 H1 fw rs1 re1 e1 v hv => ?_) fun c ms1 H1 er fw rs1 ee re1 => outS_er hq er fw rs1 ee re1
  split at e1
  · rename_i env2 st2 e2
    cases e1
    exact hg d env st1 _ _ e2 ms1 σ H1 v rs1 re1 hv _ fun ms2 H2 σ2 fw2 rs2 re2 _ => hq ms2 H2 σ2 (fw.trans fw2) rs2 re2
  · cases e1
/-- hs, hw: by rintro ⟨⟩ rfl; rfl -/
theorem simS_asg {tg : Expr} {g3 : G3} {W : List Nat} (ha : SimE c a fa) (hg : SimG c tg g3 W) (hs : ∀ env : Env, env.scope = c.sc → swapsWithSole [tg] a pos.line env = pure false) (hw : ∀ env : Env, env.scope = c.sc → swappedStores [tg] a env = pure none)
    (h1 : ∀ env : Env, (assignEach [tg] env).map (·.2) = [assign tg env] := by intro _; rfl) : SimS c (.Assign [tg] a pos) (fAsg fa g3) := by
  obtain ⟨t, p, r⟩ := ha
  obtain ⟨u, q, k⟩ := hg
  exact ⟨tAsg t u, fun X o => ps_asg (p X o) (q X o) (hs _ o.sc) (hw _ o.sc) (h1 _), rd_asg r k⟩
/-- a, b = x, y with plain local names -/
def fPar (is : List Nat) (f : F3 (List D)) : FS := eff f fun ds env st => if ds.length = is.length then some (.nx, (is.zip ds).foldl (fun e p => e.set p.1 (some p.2)) env, st) else none
theorem simS_par2 {i j : Nat} {x y : Str} {fr : F3 (List D)} {px py pt : Pos} {kt k2 pt2} (hi : c.N[i]? = some x) (hj : c.N[j]? = some y) (hij : i ≠ j) (hx : c.sc.names.lookup x = some .local) (hy : c.sc.names.lookup y = some .local) (ha : SimA c [a, b] fr)
    (hw : ∀ env : Env, env.scope = c.sc → swappedStores [.Tuple [.Name x px, .Name y py] kt pt] (.Tuple [a, b] k2 pt2) env = pure (some [x, y])) (hs : ∀ env : Env, env.scope = c.sc → swapsWithSole [.Tuple [.Name x px, .Name y py] kt pt] (.Tuple [a, b] k2 pt2) pos.line env = pure false) :
    SimS c (.Assign [.Tuple [.Name x px, .Name y py] kt pt] (.Tuple [a, b] k2 pt2) pos) (fPar [i, j] fr) := by
  obtain ⟨t, p, r⟩ := ha
  refine ⟨tPar i j t, fun X o => ps_par o.calm (by rw [o.N]; exact o.nd) (by rw [o.N]; exact hi) (by rw [o.N]; exact hj) hij (by rw [o.sc]; exact hx) (by rw [o.sc]; exact hy) (p X o) (hw _ o.sc) (hs _ o.sc), ?_⟩
  intro env st rr env' st' e ms σ H rs re Dn hq
  refine r.eff e rs re (fun ds st1 ms1 H1 fw rs1 re1 e1 vs hv => ?_) fun c ms1 H1 er fw rs1 ee re1 => outS_er hq er fw rs1 ee re1
  split at e1
  · rename_i hl
    cases e1
    match ds, hl with
    | [d1, d2], _ =>
      obtain ⟨v, w, rfl, h1, h2⟩ := hv.two'
      exact ⟨v, w, rfl, hq ms1 H1 _ fw rs1 ((re1.set i h1).set j h2)⟩
  · cases e1
theorem simS_par3 {i j l : Nat} {x y z : Str} {d : Expr} {fr : F3 (List D)} {px py pz pt : Pos} {kt k2 pt2} (hi : c.N[i]? = some x) (hj : c.N[j]? = some y) (hl : c.N[l]? = some z) (hij : i ≠ j) (hil : i ≠ l) (hjl : j ≠ l) (hx : c.sc.names.lookup x = some .local) (hy : c.sc.names.lookup y = some .local) (hz : c.sc.names.lookup z = some .local) (ha : SimA c [a, b, d] fr)
    (hw : ∀ env : Env, env.scope = c.sc → swappedStores [.Tuple [.Name x px, .Name y py, .Name z pz] kt pt] (.Tuple [a, b, d] k2 pt2) env = pure (some [x, y, z])) (hs : ∀ env : Env, env.scope = c.sc → swapsWithSole [.Tuple [.Name x px, .Name y py, .Name z pz] kt pt] (.Tuple [a, b, d] k2 pt2) pos.line env = pure false) :
    SimS c (.Assign [.Tuple [.Name x px, .Name y py, .Name z pz] kt pt] (.Tuple [a, b, d] k2 pt2) pos) (fPar [i, j, l] fr) := by
  obtain ⟨t, p, r⟩ := ha
  refine ⟨tPar3 i j l t, fun X o => ps_par3 o.calm (by rw [o.N]; exact o.nd) (by rw [o.N]; exact hi) (by rw [o.N]; exact hj) (by rw [o.N]; exact hl) hij hil hjl (by rw [o.sc]; exact hx) (by rw [o.sc]; exact hy) (by rw [o.sc]; exact hz) (p X o) (hw _ o.sc) (hs _ o.sc), ?_⟩
  intro env st rr env' st' e ms σ H rs re Dn hq
  refine r.eff e rs re (fun ds st1 ms1 H1 fw rs1 re1 e1 vs hv => ?_) fun c ms1 H1 er fw rs1 ee re1 => outS_er hq er fw rs1 ee re1
  split at e1
  · rename_i hl
    cases e1
    match ds, hl with
    | [d1, d2, d3], _ =>
      cases hv with
      | cons h1 t =>
        obtain ⟨v, w, rfl, h2, h3⟩ := t.two'
        exact ⟨_, v, w, rfl, hq ms1 H1 _ fw rs1 (((re1.set i h1).set j h2).set l h3)⟩
  · cases e1
/-- x op= e, of ints -/
def fAug (o : Int → Int → Int) (i : Nat) (f : F3 D) : FS := fun env st => match env[i]? with
  | some (some (.int k)) => eff f (fun d env st => match d with
    | .int j => some (.nx, env.set i (some (.int (o k j))), st)
    | _ => none) env st
  | _ => none
theorem simS_aug {op : Operator} {o : Int → Int → Int} (hop : ∀ X, OkX c X → PIp X op (ipI o)) (i : Nat) {x : Str} {pos' : Pos} (hi : c.N[i]? = some x) (hx : locB c x = true) (ha : SimE c a fa) : SimS c (.AugAssign (.Name x pos') op a pos) (fAug o i fa) := by
  obtain ⟨t, p, r⟩ := ha
  refine ⟨tAug i t (ipI o), fun X ok => ps_aug (by rw [ok.N]; exact ok.nd) (by rw [ok.N]; exact hi) (locB_ok hx ok).1 (p X ok) (hop X ok) (locB_ok hx ok).2, ?_⟩
  intro env st rr env' st' e ms σ H rs re Dn hq
  unfold fAug at e
  split at e
  · rename_i k ek
    obtain ⟨v, h1, h2⟩ := re.at_ i _ ek
    cases h2
    refine ⟨_, h1, ?_⟩
    refine r.eff e rs re (fun d st1 ms1 H1 fw rs1 re1 e1 v hv => ?_) fun c ms1 H1 er fw rs1 ee re1 => outS_er hq er fw rs1 ee re1
    split at e1
    · cases e1
      cases hv
      exact ⟨_, _, rfl, rfl, hq ms1 H1 _ fw rs1 (re1.set i (.int _))⟩
    · cases e1
  · cases e
theorem simS_augAdd (i : Nat) {x : Str} {pos' : Pos} (hi : c.N[i]? = some x) (hx : locB c x = true) (ha : SimE c a fa) : SimS c (.AugAssign (.Name x pos') .Add a pos) (fAug (fun i j => i + j) i fa) := simS_aug (fun X o => ip_add) i hi hx ha
/-- xs[i] op= e, a list of ints -/
def rGetL (K : PySem.W.Frag) : V → V → Hp → VK → Prop := fun x y H Q => ∃ p xs i v, x = .ref p ∧ y = .int i ∧ 0 ≤ i ∧ i < 2 ^ 63 ∧ SqL K H p xs ∧ xs[i.toNat]? = some v ∧ Q v H
theorem get_l {X : Cx} : PGet X (rGetL X.K) := by
  intro pins s σ H o i ov iv Q I ro ri h
  obtain ⟨p, xs, k, v, rfl, rfl, h0, h1, hp, hv, q⟩ := h
  cases ro
  obtain ⟨t, rfl⟩ := ri
  obtain ⟨its, r, pl, hz⟩ := I.list hp
  obtain ⟨w, ew, rw'⟩ := r.get hv
  exact wpAny_getItem_list pl.isList h0 h1 (by simpa using ew) ⟨v, H, I, rw', q⟩
def fAugS (o : Int → Int → Int) (fo fi f : F3 D) : FS := eff fo fun x => eff fi fun y => fun env st => match y with
  | .int i => if 0 ≤ i ∧ i < 2 ^ 63 then match seqL st x with
      | some ds => match ds[i.toNat]? with
        | some (.int k) => eff f (fun d env st => match d with
          | .int j => match oSet st x y (.int (o k j)) with
            | some st' => some (.nx, env, st')
            | none => none
          | _ => none) env st
        | _ => none
      | none => none
    else none
  | _ => none
theorem simS_augS {op : Operator} {o : Int → Int → Int} (hop : ∀ X, OkX c X → PIp X op (ipI o)) {fc : F3 D} {tpos : Pos} (ha : SimE c a fa) (hb : SimE c b fb) (he : SimE c e fc) (hau : ∀ ov iv new, augStore b ov iv new = (do holding [new, ov, iv] (setItem ov iv new); release [new, ov, iv] []; pure .next) := by intros; rfl) : SimS c (.AugAssign (.Subscript a b tpos) op e pos) (fAugS o fa fb fc) := by
  obtain ⟨ta, pa, ra⟩ := ha
  obtain ⟨tb, pb, rb⟩ := hb
  obtain ⟨te, pe, re'⟩ := he
  refine ⟨tAugS ta tb te (rGetL c.g.K) (ipI o) rSetX, fun X ok => ps_augS (pa X ok) (pb X ok) (by rw [← ok.K]; exact get_l) (pe X ok) (hop X ok) (set_x ok.hu) hau, ?_⟩
  intro env st rr env' st' e ms σ H rs re Dn hq
  refine ra.eff e rs re (fun x st1 ms1 H1 fw1 rs1 re1 e1 vx hx => ?_) fun c ms1 H1 er fw rs1 ee re1 => outS_er hq er fw rs1 ee re1
  refine rb.eff e1 rs1 re1 (fun y st2 ms2 H2 fw2 rs2 re2 e2 vy hy => ?_) fun c ms2 H2 er fw rs2 ee re2 => outS_er hq er (fw1.trans fw) rs2 ee re2
  split at e2
  · rename_i i
    split at e2
    · rename_i hi
      split at e2
      · rename_i ds ed
        split at e2
        · rename_i k ek
          cases hy
          obtain ⟨p, vs, rfl, hp, hvs⟩ := seqL_ok rs2 (fw2.rl hx) ed
          obtain ⟨v, hv1, hv2⟩ := hvs.get ek
          cases hv2
          refine ⟨p, vs, i, _, rfl, rfl, hi.1, hi.2, hp, hv1, ?_⟩
          refine re'.eff e2 rs2 re2 (fun d st3 ms3 H3 fw3 rs3 re3 e3 v hv => ?_) fun c ms3 H3 er fw rs3 ee re3 => outS_er hq er ((fw1.trans fw2).trans fw) rs3 ee re3
          split at e3
          · split at e3
            · rename_i st4 e4
              cases e3
              cases hv
              exact ⟨_, _, rfl, rfl, oSet_ok rs3 ((fw2.trans fw3).rl hx) (.int _) (.int _) e4 fun H4 fw4 rs4 => hq ms3 H4 σ (((fw1.trans fw2).trans fw3).trans fw4) rs4 (re3.mono fw4)⟩
            · cases e3
          · cases e3
        · cases e2
      · cases e2
    · cases e2
  · cases e2
end
end S3

set_option maxHeartbeats 2000000
/-! S3H: loops, comprehensions. -/
namespace S3
open PySem PySem.Spec PyProof.Rows L2

/-! ### while -/
def fWhile (fc : F3 Bool) (fb : FS) : Nat → FS
  | 0 => fun _ _ => none
  | n + 1 => fun env st => match fc env st with
    | some (.ok true, st1) => match fb env st1 with
      | some (.nx, env2, st2) => fWhile fc fb n env2 st2
      | some (.ct, env2, st2) => fWhile fc fb n env2 st2
      | some (.bk, env2, st2) => some (.nx, env2, st2)
      | some (.rt d, env2, st2) => some (.rt d, env2, st2)
      | some (.er c, env2, st2) => some (.er c, env2, st2)
      | none => none
    | some (.ok false, st1) => some (.nx, env, st1)
    | some (.er c, st1) => some (.er c, env, st1)
    | none => none
section
variable {c : Cxt} {a b e : Expr} {es : List Expr} {s : Stmt} {ss : List Stmt} {f1 f2 fb : FS} {fa : F3 D} {pos p2 p : Pos}
theorem simS_while {ft : F3 Bool} (n : Nat) (hc : SimT c e ft) (hb : SimSs c ss fb) : SimS c (.While e ss [] pos) (fWhile ft fb n) := by
  obtain ⟨tc, pc, rc⟩ := hc
  obtain ⟨tb, pb, rb⟩ := hb
  refine ⟨tWhile tc tb, fun X o => ps_while o.po (pc X o) (pb X o), ?_⟩
  intro env st r env' st' e ms σ H rs re Dn hq
  refine ⟨fun m σ1 H1 => ∃ env1 st1 ms1, Fw ms H ms1 H1 ∧ Rs c.g ms1 H1 st1 ∧ Re c.g ms1 H1 env1 σ1 ∧ fWhile ft fb m env1 st1 = some (r, env', st'), ⟨n, env, st, ms, Fw.refl ms H, rs, re, e⟩, ?_⟩
  rintro m σ1 H1 ⟨env1, st1, ms1, fw1, rs1, re1, e1⟩
  cases m with
  | zero => cases e1
  | succ m =>
    unfold fWhile at e1
    split at e1
    · rename_i st2 e2
      refine rc env1 st1 _ _ e2 ms1 σ1 H1 rs1 re1 _ fun ms2 H2 fw2 rs2 b hb => ?_
      cases hb
      refine iteT ⟨fun σ3 H3 => ∃ env1 st1 ms1, Fw ms H ms1 H3 ∧ Rs c.g ms1 H3 st1 ∧ Re c.g ms1 H3 env1 σ3 ∧ fWhile ft fb m env1 st1 = some (r, env', st'), fun σ' H' h => ⟨m, Nat.lt_succ_self m, h⟩, ?_⟩
      have re2 := re1.mono fw2
      have fw12 := fw1.trans fw2
      split at e1
      · rename_i env3 st3 e3
        refine rb env1 st2 _ _ _ e3 ms2 σ1 H2 rs2 re2 _ fun ms3 H3 σ3 fw3 rs3 re3 => ?_
        exact ⟨env3, st3, ms3, fw12.trans fw3, rs3, re3, e1⟩
      · rename_i env3 st3 e3
        refine rb env1 st2 _ _ _ e3 ms2 σ1 H2 rs2 re2 _ fun ms3 H3 σ3 fw3 rs3 re3 => ?_
        exact ⟨env3, st3, ms3, fw12.trans fw3, rs3, re3, e1⟩
      · rename_i env3 st3 e3
        cases e1
        exact rb env1 st2 _ _ _ e3 ms2 σ1 H2 rs2 re2 _ fun ms3 H3 σ3 fw3 rs3 re3 => hq ms3 H3 σ3 (fw12.trans fw3) rs3 re3
      · rename_i d env3 st3 e3
        cases e1
        exact rb env1 st2 _ _ _ e3 ms2 σ1 H2 rs2 re2 _ fun ms3 H3 σ3 fw3 rs3 re3 => hq ms3 H3 σ3 (fw12.trans fw3) rs3 re3
      · rename_i cc env3 st3 e3
        cases e1
        exact rb env1 st2 _ _ _ e3 ms2 σ1 H2 rs2 re2 _ fun ms3 H3 σ3 fw3 rs3 re3 => hq ms3 H3 σ3 (fw12.trans fw3) rs3 re3
      · cases e1
    · rename_i st2 e2
      cases e1
      refine rc _ st1 _ _ e2 ms1 σ1 H1 rs1 re1 _ fun ms2 H2 fw2 rs2 b hb => ?_
      cases hb
      exact iteF (hq ms2 H2 σ1 (fw1.trans fw2) rs2 (re1.mono fw2))
    · rename_i cc st2 e2
      cases e1
      exact rc _ st1 _ _ e2 ms1 σ1 H1 rs1 re1 _ fun ms2 H2 fw2 rs2 => hq ms2 H2 σ1 (fw1.trans fw2) rs2 (re1.mono fw2)
    · cases e1

/-! ### what is walked -/
abbrev Src := Sto → Nat → Option (Option D)
/-- J follows src -/
def IOk (g : Gs) (ms0 : List Addr) (H0 : Hp) (src : Src) (J : It) : Prop := ∀ ms H st i, Fw ms0 H0 ms H → Rs g ms H st →
  (src st i = some none → J.stop i H) ∧ ∀ d, src st i = some (some d) → J.go i H ∧ ∀ x H', J.yld i H x H' → Fw ms H ms H' ∧ Rs g ms H' st ∧ Rl g ms H' d x
def SimI (c : Cxt) (tg iter : Expr) (f : F3 Src) : Prop := ∃ wi : TI, (∀ X, OkX c X → PI X tg iter wi) ∧ Rd c.g c.E (IOk c.g) wi f
def srcL (d : D) : Src := fun st i => match seqL st d with
  | some ds => some ds[i]?
  | none => none
def srcT (ds : List D) : Src := fun _ i => some ds[i]?
def fOverL (f : F3 D) : F3 Src := bnd f fun d env st => match seqL st d with
  | some _ => some (.ok (srcL d), st)
  | none => none
def fOverT (f : F3 D) : F3 Src := bnd f fun d env st => match seqT d with
  | some ds => some (.ok (srcT ds), st)
  | none => none
variable {tg : Expr}
theorem simI_list (ha : SimE c a fa) : SimI c tg a (fOverL fa) := by
  obtain ⟨t, p, r⟩ := ha
  refine ⟨iList c.g.K t, fun X o => by rw [← o.K]; exact pi_list (p X o), ?_⟩
  intro env st rr st' e ms σ H rs re R hq
  refine r.bind e rs re (fun d st1 ms1 H1 fw rs1 re1 e1 v hv => ?_) fun c ms1 H1 er fw rs1 => out_er hq er fw rs1
  split at e1
  · rename_i ds ed
    cases e1
    obtain ⟨q, vs, rfl, hp, hvs⟩ := seqL_ok rs1 hv ed
    refine ⟨q, rfl, ⟨vs, hp⟩, hq ms1 H1 fw rs1 _ fun ms2 H2 st2 i fw2 rs2 => ?_⟩
    have hv2 := fw2.rl hv
    unfold srcL
    split
    · rename_i es ee
      obtain ⟨q', us, eq, hp2, hus⟩ := seqL_ok rs2 hv2 ee
      cases eq
      refine ⟨fun z => ⟨us, hp2, ?_⟩, fun d' z => ?_⟩
      · have z' : es[i]? = none := Option.some.inj z
        rw [← hus.length]
        exact List.getElem?_eq_none_iff.mp z'
      · have z' : es[i]? = some d' := Option.some.inj z
        obtain ⟨v, h1, h2⟩ := hus.get z'
        refine ⟨⟨us, v, hp2, h1⟩, fun x H' y => ?_⟩
        obtain ⟨rfl, y2⟩ := y
        have y3 := y2 us hp2
        rw [h1] at y3
        cases y3
        exact ⟨Fw.refl _ _, rs2, h2⟩
    · exact ⟨fun z => (by cases z), fun _ z => (by cases z)⟩
  · cases e1
theorem simI_tup (ha : SimE c a fa) : SimI c tg a (fOverT fa) := by
  obtain ⟨t, p, r⟩ := ha
  refine ⟨iTup c.g.K t, fun X o => by rw [← o.K]; exact pi_tup (p X o), ?_⟩
  intro env st rr st' e ms σ H rs re R hq
  refine r.bind e rs re (fun d st1 ms1 H1 fw rs1 re1 e1 v hv => ?_) fun c ms1 H1 er fw rs1 => out_er hq er fw rs1
  split at e1
  · rename_i ds ed
    cases e1
    obtain ⟨q, vs, rfl, hp, hvs⟩ := seqT_ok hv ed
    refine ⟨q, rfl, ⟨vs, hp⟩, hq ms1 H1 fw rs1 _ fun ms2 H2 st2 i fw2 rs2 => ?_⟩
    have hp2 := fw2.le.sqT hp
    refine ⟨fun z => ⟨vs, hp2, ?_⟩, fun d' z => ?_⟩
    · have z' : ds[i]? = none := Option.some.inj z
      rw [← hvs.length]
      exact List.getElem?_eq_none_iff.mp z'
    · have z' : ds[i]? = some d' := Option.some.inj z
      obtain ⟨v, h1, h2⟩ := hvs.get z'
      refine ⟨⟨vs, v, hp2, h1⟩, fun x H' y => ?_⟩
      obtain ⟨rfl, y2⟩ := y
      have y3 := y2 vs hp2
      rw [h1] at y3
      cases y3
      exact ⟨Fw.refl _ _, rs2, fw2.rl h2⟩
  · cases e1
def srcR (lo : Int) (n : Nat) : Src := fun _ i => some (if i < n then some (.int (lo + (i : Nat))) else none)
def fOverR (f : F3 (List D)) : F3 Src := bnd f fun ds env st => match ds with
  | [.int j] => if -(2 ^ 62) ≤ j ∧ j < 2 ^ 62 then some (.ok (srcR 0 j.toNat), st) else none
  | _ => none
theorem iok_range {g : Gs} {ms : List Addr} {H : Hp} {lo : Int} {n : Nat} : IOk g ms H (srcR lo n) (Itr lo n) := by
  intro ms2 H2 st2 i fw2 rs2
  unfold srcR
  by_cases hi : i < n
  · rw [if_pos hi]
    refine ⟨fun z => (by cases z), fun d z => ⟨hi, fun x H' y => ?_⟩⟩
    obtain ⟨rfl, rfl⟩ := y
    cases z
    exact ⟨Fw.refl _ _, rs2, .int _⟩
  · rw [if_neg hi]
    exact ⟨fun _ => Nat.le_of_not_lt hi, fun d z => (by cases z)⟩
theorem simI_range {fr : F3 (List D)} (hg : glB c.sc "range" = true) (hm : c.g.mg "range" = none) (ha : SimA c [a] fr) (hp : plainE a = true := by rfl) : SimI c tg (.Call (.Name "range" p) [a] [] pos) (fOverR fr) := by
  obtain ⟨t, q, r⟩ := ha
  refine ⟨iRng1 t, fun X o => pi_range1 (o.gl hg) (by rw [o.mg]; exact hm) (q X o) (starEach_plain hp), ?_⟩
  intro env st rr st' e ms σ H rs re R hq
  refine r.bind e rs re (fun ds st1 ms1 H1 fw rs1 re1 e1 vs hv => ?_) fun c ms1 H1 er fw rs1 => out_er hq er fw rs1
  split at e1
  · split at e1
    · rename_i hj
      cases e1
      obtain ⟨v, rfl, hv⟩ := hv.one'
      cases ‹Rl c.g ms1 H1 (D.int _) v›
      exact ⟨_, rfl, hj.1, hj.2, hq ms1 H1 fw rs1 _ iok_range⟩
    · cases e1
  · cases e1
def srcS (x : Str) : Src := fun _ i => some (match x.cps[i]? with
  | some k => some (.str ⟨#[k]⟩)
  | none => none)
def fOverS (f : F3 D) : F3 Src := bnd f fun d env st => match d with
  | .str x => some (.ok (srcS x), st)
  | _ => none
theorem simI_str (ha : SimE c a fa) : SimI c tg a (fOverS fa) := by
  obtain ⟨t, p, r⟩ := ha
  refine ⟨iStr t, fun X o => pi_str (p X o), ?_⟩
  intro env st rr st' e ms σ H rs re R hq
  refine r.bind e rs re (fun d st1 ms1 H1 fw rs1 re1 e1 v hv => ?_) fun c ms1 H1 er fw rs1 => out_er hq er fw rs1
  split at e1
  · rename_i x
    cases e1
    cases hv
    refine ⟨x, rfl, hq ms1 H1 fw rs1 _ fun ms2 H2 st2 i fw2 rs2 => ?_⟩
    unfold srcS
    cases hk : x.cps[i]? with
    | none => exact ⟨fun _ => Array.getElem?_eq_none_iff.mp hk, fun d z => (by cases z)⟩
    | some k =>
      refine ⟨fun z => (by cases z), fun d z => ⟨(Array.getElem?_eq_some_iff.mp hk).1, fun x' H' y => ?_⟩⟩
      obtain ⟨rfl, k', h1, rfl⟩ := y
      rw [hk] at h1
      cases h1
      cases z
      exact ⟨Fw.refl _ _, rs2, .str _⟩
  · cases e1
/-- enumerate(a list) -/
def srcE (d : D) : Src := fun st i => match seqL st d with
  | some ds => some (match ds[i]? with
    | some x => some (.tup [.int (i : Nat), x])
    | none => none)
  | none => none
def fOverE (f : F3 (List D)) : F3 Src := bnd f fun ds env st => match ds with
  | [d] => match seqL st d with
    | some _ => some (.ok (srcE d), st)
    | none => none
  | _ => none
theorem simI_enumL {elts : List Expr} {kk : Nat} {tpos : Pos} {fr : F3 (List D)} (hg : glB c.sc "enumerate" = true) (hm : c.g.mg "enumerate" = none) (ha : SimA c [a] fr) (hp : plainE a = true := by rfl) : SimI c (.Tuple elts kk tpos) (.Call (.Name "enumerate" p) [a] [] pos) (fOverE fr) := by
  obtain ⟨t, q, r⟩ := ha
  refine ⟨iEnum c.g.K t, fun X o => by rw [← o.K]; exact pi_enum (o.gl hg) (by rw [o.mg]; exact hm) (q X o) (starEach_plain hp), ?_⟩
  intro env st rr st' e ms σ H rs re R hq
  refine r.bind e rs re (fun ds st1 ms1 H1 fw rs1 re1 e1 vs hv => ?_) fun c ms1 H1 er fw rs1 => out_er hq er fw rs1
  split at e1
  · split at e1
    · rename_i d ds ed
      cases e1
      obtain ⟨v, e0, hv1⟩ := hv.one'
      subst e0
      clear hv
      have hv := hv1
      clear hv1
      obtain ⟨q, vs, rfl, hp, hvs⟩ := seqL_ok rs1 hv ed
      refine ⟨q, vs, rfl, hp, hq ms1 H1 fw rs1 _ fun ms2 H2 st2 i fw2 rs2 => ?_⟩
      have hv2 := fw2.rl hv
      unfold srcE
      split
      · rename_i es ee
        obtain ⟨q', us, eq, hp2, hus⟩ := seqL_ok rs2 hv2 ee
        cases eq
        cases hk : es[i]? with
        | none => exact ⟨fun z => ⟨us, hp2, by rw [← hus.length]; exact List.getElem?_eq_none_iff.mp hk⟩, fun _ z => (by cases z)⟩
        | some x =>
          obtain ⟨w, h1, h2⟩ := hus.get hk
          refine ⟨fun z => (by cases z), fun d' z => ⟨⟨us, w, hp2, h1⟩, fun x' H' y => ?_⟩⟩
          obtain ⟨T, x2, rfl, hT, rfl, y2⟩ := y
          have y3 := y2 us hp2
          rw [h1] at y3
          cases y3
          cases z
          obtain ⟨fw3, rs3⟩ := rs2.fresh (o := .tup [.int (i : Nat), w]) hT
          exact ⟨fw3, rs3, .tup upd_same (.cons (.int _) (.one (fw3.rl h2)))⟩
      · exact ⟨fun z => (by cases z), fun _ z => (by cases z)⟩
    · cases e1
  · cases e1
/-- zip of two tuples -/
def srcZ (xs ys : List D) : Src := fun _ i => some (match xs[i]?, ys[i]? with
  | some x, some y => some (.tup [x, y])
  | _, _ => none)
def fOverZ (f : F3 (List D)) : F3 Src := bnd f fun ds env st => match ds with
  | [.tup xs, .tup ys] => some (.ok (srcZ xs ys), st)
  | _ => none
theorem simI_zipT {elts : List Expr} {kk : Nat} {tpos : Pos} {fr : F3 (List D)} (hg : glB c.sc "zip" = true) (hm : c.g.mg "zip" = none) (ha : SimA c [a, b] fr) (hp : plainE a = true := by rfl) (hp2 : plainE b = true := by rfl) : SimI c (.Tuple elts kk tpos) (.Call (.Name "zip" p) [a, b] [] pos) (fOverZ fr) := by
  obtain ⟨t, q, r⟩ := ha
  refine ⟨RZ.iZipA c.g.K t, fun X o => by rw [← o.K]; exact RZ.pi_zipA (o.gl hg) (by rw [o.mg]; exact hm) (q X o) (starEach_plain hp) (star_any (by unfold plainA; rw [hp2]; rfl)), ?_⟩
  intro env st rr st' e ms σ H rs re R hq
  refine r.bind e rs re (fun ds st1 ms1 H1 fw rs1 re1 e1 vs hv => ?_) fun c ms1 H1 er fw rs1 => out_er hq er fw rs1
  split at e1
  · rename_i xs ys
    cases e1
    obtain ⟨v, w, e0, h1, h2⟩ := hv.two'
    subst e0
    cases h1 with
    | tup hp ha =>
      cases h2 with
      | tup hq' hb =>
        rename_i pa va pb vb
        refine ⟨pa, pb, va, vb, rfl, .inr ⟨.inl (.inl hp), .inl (.inl hq'), hq ms1 H1 fw rs1 _ fun ms2 H2 st2 i fw2 rs2 => ?_⟩⟩
        have ta : SqT c.g.K H2 pa va := fw2.le.sqT (.inl (.inl hp))
        have tb : SqT c.g.K H2 pb vb := fw2.le.sqT (.inl (.inl hq'))
        unfold srcZ
        cases hx : xs[i]? with
        | none => exact ⟨fun _ => ⟨va, vb, ta, tb, .inl (by rw [← ha.length]; exact List.getElem?_eq_none_iff.mp hx)⟩, fun _ z => (by cases z)⟩
        | some x =>
          cases hy : ys[i]? with
          | none => exact ⟨fun _ => ⟨va, vb, ta, tb, .inr (by rw [← hb.length]; exact List.getElem?_eq_none_iff.mp hy)⟩, fun _ z => (by cases z)⟩
          | some y =>
            obtain ⟨w1, k1, k2⟩ := ha.get hx
            obtain ⟨w2, k3, k4⟩ := hb.get hy
            refine ⟨fun z => (by cases z), fun d' z => ⟨⟨va, vb, w1, w2, ta, tb, k1, k3⟩, fun x' H' yy => ?_⟩⟩
            obtain ⟨T, x2, y2, rfl, hT, rfl, z1, z2⟩ := yy
            have z1 := z1 va ta
            have z2 := z2 vb tb
            rw [k1] at z1
            rw [k3] at z2
            cases z1
            cases z2
            cases z
            obtain ⟨fw3, rs3⟩ := rs2.fresh (o := .tup [w1, w2]) hT
            exact ⟨fw3, rs3, .tup upd_same (.cons ((fw2.trans fw3).rl k2) (.one ((fw2.trans fw3).rl k4)))⟩
  · cases e1

/-! ### for -/
def loopF (src : Src) (gt : G3) (fb : FS) : Nat → Nat → FS
  | 0, _ => fun _ _ => none
  | n + 1, i => fun env st => match src st i with
    | some none => some (.nx, env, st)
    | some (some d) => match gt d env st with
      | some (env1, st1) => match fb env1 st1 with
        | some (.nx, env2, st2) => loopF src gt fb n (i + 1) env2 st2
        | some (.ct, env2, st2) => loopF src gt fb n (i + 1) env2 st2
        | some (.bk, env2, st2) => some (.nx, env2, st2)
        | some (.rt d, env2, st2) => some (.rt d, env2, st2)
        | some (.er c, env2, st2) => some (.er c, env2, st2)
        | none => none
      | none => none
    | none => none
def fFor (n : Nat) (fi : F3 Src) (gt : G3) (fb : FS) : FS := eff fi fun src => loopF src gt fb n 0
theorem simS_for {W : List Nat} {gt : G3} {fi : F3 Src} (n : Nat) (hi : SimI c tg e fi) (hg : SimG c tg gt W) (hb : SimSs c ss fb) (hs : ∀ (env : Env) (x : Value), foldedSetIterable e env x = pure x := by intro _ _; rfl) : SimS c (.For tg e ss [] pos) (fFor n fi gt fb) := by
  obtain ⟨wi, pi, ri⟩ := hi
  obtain ⟨tgt, pg, rg⟩ := hg
  obtain ⟨tb, pb, rb⟩ := hb
  refine ⟨tFor wi tgt tb, fun X o => ps_for o.po o.calm (pi X o) (pg X o) (pb X o) (hs _), ?_⟩
  intro env st r env' st' e ms σ H rs re Dn hq
  refine ri.eff e rs re (fun src st0 ms0 H0 fw0 rs0 re0 e0 J hJ => ?_) fun c ms1 H1 er fw rs1 ee re1 => outS_er hq er fw rs1 ee re1
  refine ⟨fun i m σ1 H1 => ∃ env1 st1 ms1, Fw ms0 H0 ms1 H1 ∧ Rs c.g ms1 H1 st1 ∧ Re c.g ms1 H1 env1 σ1 ∧ loopF src gt fb m i env1 st1 = some (r, env', st'), ⟨n, env, st0, ms0, Fw.refl _ _, rs0, re0, e0⟩, ?_⟩
  rintro i m σ1 H1 ⟨env1, st1, ms1, fw1, rs1, re1, e1⟩
  cases m with
  | zero => cases e1
  | succ m =>
    unfold loopF at e1
    obtain ⟨J1, J2⟩ := hJ ms1 H1 st1 i fw1 rs1
    split at e1
    · rename_i hs
      cases e1
      exact .inl ⟨J1 hs, hq ms1 H1 σ1 (fw0.trans fw1) rs1 re1⟩
    · rename_i d hs
      obtain ⟨g1, g2⟩ := J2 d hs
      refine .inr ⟨g1, fun σ3 H3 => ∃ env1 st1 ms1, Fw ms0 H0 ms1 H3 ∧ Rs c.g ms1 H3 st1 ∧ Re c.g ms1 H3 env1 σ3 ∧ loopF src gt fb m (i + 1) env1 st1 = some (r, env', st'), fun σ' H' h => ⟨m, Nat.lt_succ_self m, h⟩, fun x H2 hy => ?_⟩
      obtain ⟨fw2, rs2, hd⟩ := g2 x H2 hy
      have fw02 := fw1.trans fw2
      split at e1
      · rename_i env3 st3 e3
        refine rg d env1 st1 _ _ e3 ms1 σ1 H2 x rs2 (re1.mono fw2) hd _ fun ms3 H3 σ3 fw3 rs3 re3 _ => ?_
        have fw03 := fw02.trans fw3
        split at e1
        · rename_i env4 st4 e4
          refine rb env3 st3 _ _ _ e4 ms3 σ3 H3 rs3 re3 _ fun ms4 H4 σ4 fw4 rs4 re4 => ?_
          exact ⟨env4, st4, ms4, fw03.trans fw4, rs4, re4, e1⟩
        · rename_i env4 st4 e4
          refine rb env3 st3 _ _ _ e4 ms3 σ3 H3 rs3 re3 _ fun ms4 H4 σ4 fw4 rs4 re4 => ?_
          exact ⟨env4, st4, ms4, fw03.trans fw4, rs4, re4, e1⟩
        · rename_i env4 st4 e4
          cases e1
          exact rb env3 st3 _ _ _ e4 ms3 σ3 H3 rs3 re3 _ fun ms4 H4 σ4 fw4 rs4 re4 => hq ms4 H4 σ4 (fw0.trans (fw03.trans fw4)) rs4 re4
        · rename_i d4 env4 st4 e4
          cases e1
          exact rb env3 st3 _ _ _ e4 ms3 σ3 H3 rs3 re3 _ fun ms4 H4 σ4 fw4 rs4 re4 => hq ms4 H4 σ4 (fw0.trans (fw03.trans fw4)) rs4 re4
        · rename_i c4 env4 st4 e4
          cases e1
          exact rb env3 st3 _ _ _ e4 ms3 σ3 H3 rs3 re3 _ fun ms4 H4 σ4 fw4 rs4 re4 => hq ms4 H4 σ4 (fw0.trans (fw03.trans fw4)) rs4 re4
        · cases e1
      · cases e1
    · cases e1

/-! ### comprehensions -/
/-- the context of a block -/
def Cxt.blk (c : Cxt) (scope : Scope) : Cxt := { c with sc := relS scope c.sc, E := fun _ _ _ => False, own := fun x => scope.names.lookup x == some .cell, lam := none }
theorem OkX.blk {X : Cx} (o : OkX c X) (s : Shared) (H : Hp) (scope : Scope) (C : Addr) (cl : List (Str × Addr)) (fp : List Addr) : OkX (c.blk scope) (X.blk s H scope (compEnvC scope cl C X.env) fp) where
  prog := o.prog
  w := o.w
  K := o.K
  mg := o.mg
  base := o.base
  N := o.N
  sc := by
    show relabel scope X.env = relS scope c.sc
    rw [← o.sc]
    rfl
  calm := o.calm
  room := o.room
  guards := o.guards
  lamb := fun _ _ z => (by cases z)
  nd := o.nd
  fn := fun x h => h
  po := PassesOwn.never
  tk := takes0
def wipeE (env : Env3) : List Nat → Env3
  | [] => env
  | v :: vs => (wipeE env vs).set v none
theorem Re.wipe {g : Gs} {ms : List Addr} {H : Hp} {env : Env3} {σ : L2.St} (r : Re g ms H env σ) : ∀ vs : List Nat, Re g ms H (wipeE env vs) (L2.wipe σ vs)
  | [] => r
  | v :: vs => by
    have ih := Re.wipe r vs
    refine ⟨by simp [wipeE, L2.wipe, ih.len], fun i d e => ?_⟩
    unfold wipeE at e
    unfold L2.wipe
    by_cases hi : v = i
    · subst hi
      by_cases hl : v < (wipeE env vs).length
      · rw [List.getElem?_set_self hl] at e
        cases e
      · rw [List.getElem?_eq_none (by simpa using hl)] at e
        cases e
    · rw [List.getElem?_set_ne hi] at e ⊢
      exact ih.at_ i d e
theorem wipe_get {σ : L2.St} {j : Nat} : ∀ {vs : List Nat}, (L2.wipe σ vs)[j]? = if j ∈ vs ∧ j < σ.length then some none else σ[j]?
  | [] => by simp [L2.wipe]
  | v :: vs => by
    unfold L2.wipe
    by_cases hv : v = j
    · subst hv
      by_cases hl : v < σ.length
      · rw [List.getElem?_set_self (by rw [wipe_length]; exact hl), if_pos ⟨by simp, hl⟩]
      · rw [List.getElem?_eq_none (by simp [wipe_length]; omega), if_neg (by simp [hl]), List.getElem?_eq_none (by omega)]
    · rw [List.getElem?_set_ne hv, wipe_get]
      have : (j ∈ v :: vs) ↔ j ∈ vs := by
        rw [List.mem_cons]
        exact ⟨fun z => z.elim (fun e => absurd e.symm hv) id, .inr⟩
      simp only [this]
theorem wipe_same {σ σ2 : L2.St} {W vs : List Nat} (hl : σ2.length = σ.length) (h : ∀ j, j ∉ W → σ2[j]? = (L2.wipe σ vs)[j]?) (hW : ∀ j ∈ W, j ∈ vs) : L2.wipe σ2 vs = L2.wipe σ vs := by
  apply List.ext_getElem?
  intro j
  rw [wipe_get]
  by_cases hj : j ∈ vs
  · by_cases hlt : j < σ.length
    · rw [if_pos ⟨hj, by rw [hl]; exact hlt⟩, wipe_get, if_pos ⟨hj, hlt⟩]
    · rw [if_neg (by rw [hl]; simp [hlt]), List.getElem?_eq_none (by omega), List.getElem?_eq_none (by rw [wipe_length]; omega)]
  · rw [if_neg (by simp [hj]), h j fun z => hj (hW j z)]
def SimTs (c : Cxt) (ifs : List Expr) (f : F3 Bool) : Prop := ∃ t : TT, (∀ X, OkX c X → PTs X ifs t) ∧ Rd c.g c.E RelB t f
theorem simTs_nil : SimTs c [] (ret3 true) := ⟨tYes, fun X o => pts_nil, Rd.ret (fun _ _ => rfl) fun _ _ _ h => h.symm⟩
theorem simTs_one {ft : F3 Bool} (h : SimT c e ft) : SimTs c [e] ft := by
  obtain ⟨t, p, r⟩ := h
  exact ⟨t, fun X o => pts_one (p X o), r⟩
def loopC (src : Src) (gt : G3) (ft : F3 Bool) (fe : F3 D) (env0 : Env3) (D : Nat) : Nat → Nat → Sto → Option Sto
  | 0, _, _ => none
  | n + 1, i, st => match src st i with
    | some none => some st
    | some (some d) => match gt d env0 st with
      | some (env1, st1) => match ft env1 st1 with
        | some (.ok true, st2) => match fe env1 st2 with
          | some (.ok y, st3) => match st3[D]? with
            | some (.lst acc) => if acc.length < sizeLine then loopC src gt ft fe env0 D n (i + 1) (st3.set D (.lst (acc ++ [y]))) else none
            | _ => none
          | _ => none
        | some (.ok false, st2) => loopC src gt ft fe env0 D n (i + 1) st2
        | _ => none
      | none => none
    | none => none
def fLc (n : Nat) (vs : List Nat) (fi : F3 Src) (gt : G3) (ft : F3 Bool) (fe : F3 D) : F3 D := bnd fi fun src env st => match loopC src gt ft fe (wipeE env vs) st.length n 0 (st ++ [.lst []]) with
  | some st' => some (.ok (.loc st.length), st')
  | none => none
theorem rd_lc {g : Gs} {E : XK} {wi : TI} {tgt : TG} {tt : TT} {te : TE} {vs : List Nat} {W : List Nat} {gt : G3} {ft : F3 Bool} {fe : F3 D} {fi : F3 Src} (n : Nat) (ri : Rd g E (IOk g) wi fi) (rg : RdG g (Rl g) tgt gt W) (rt : Rd g (fun _ _ _ => False) RelB tt ft) (re' : Rd g (fun _ _ _ => False) (Rl g) te fe) (hW : ∀ j ∈ W, j ∈ vs) :
    Rd g E (Rl g) (tLc wi tgt tt te vs) (fLc n vs fi gt ft fe) := by
  intro env st rr st' e ms σ H rs re Q hq
  refine ri.bind e rs re (fun src st0 ms0 H0 fw0 rs0 re0 e0 J hJ => ?_) fun c ms1 H1 er fw rs1 => out_er hq er fw rs1
  split at e0
  · rename_i st9 e9
    cases e0
    intro D hD
    obtain ⟨fwA, rsA, qA⟩ := rs0.alloc (o := .lst []) (u := .lst []) hD fun f e => ⟨[], e, .nil⟩
    have hDm : (ms0 ++ [D])[st0.length]? = some D := by
      rw [← rs0.len, List.getElem?_append_right (Nat.le_refl _), Nat.sub_self]
      rfl
    have hDn : ∀ {ms2 H2}, Fw (ms0 ++ [D]) (upd H0 D (.lst [])) ms2 H2 → ms2[st0.length]? = some D := fun {ms2 H2} f => by
      obtain ⟨t, rfl⟩ := f.ms
      rw [List.getElem?_append_left (List.getElem?_eq_some_iff.mp hDm).1]
      exact hDm
    refine ⟨fun i m H1 => ∃ st1 ms1, Fw (ms0 ++ [D]) (upd H0 D (.lst [])) ms1 H1 ∧ Rs g ms1 H1 st1 ∧ loopC src gt ft fe (wipeE env vs) st0.length m i st1 = some st', ⟨n, _, _, Fw.refl _ _, rsA, e9⟩, ?_⟩
    rintro i m H1 ⟨st1, ms1, fw1, rs1, e1⟩
    have re1 : Re g ms1 H1 (wipeE env vs) (L2.wipe σ vs) := ((re0.mono fwA).mono fw1).wipe vs
    cases m with
    | zero => cases e1
    | succ m =>
      unfold loopC at e1
      obtain ⟨J1, J2⟩ := hJ ms1 H1 st1 i (fwA.trans fw1) rs1
      split at e1
      · rename_i hs
        cases e1
        exact .inl ⟨J1 hs, hq ms1 H1 ((fw0.trans fwA).trans fw1) rs1 _ (fw1.rl qA)⟩
      · rename_i d hs
        obtain ⟨g1, g2⟩ := J2 d hs
        refine .inr ⟨g1, fun H3 => ∃ st1 ms1, Fw (ms0 ++ [D]) (upd H0 D (.lst [])) ms1 H3 ∧ Rs g ms1 H3 st1 ∧ loopC src gt ft fe (wipeE env vs) st0.length m (i + 1) st1 = some st', fun H' h => ⟨m, Nat.lt_succ_self m, h⟩, fun x H2 hy => ?_⟩
        obtain ⟨fw2, rs2, hd⟩ := g2 x H2 hy
        split at e1
        · rename_i env3 st3 e3
          refine rg d _ st1 _ _ e3 ms1 _ H2 x rs2 (re1.mono fw2) hd _ fun ms3 H3 σ3 fw3 rs3 re3 hk => ?_
          refine ⟨wipe_same (hk.1.trans (wipe_length σ vs)) hk.2 hW, ?_⟩
          have fw13 := fw1.trans (fw2.trans fw3)
          split at e1
          · rename_i st4 e4
            refine rt env3 st3 _ _ e4 ms3 σ3 H3 rs3 re3 _ fun ms4 H4 fw4 rs4 b hb => ?_
            cases hb
            split at e1
            · rename_i y st5 e5
              refine iteT (re' env3 st4 _ _ e5 ms4 σ3 H4 rs4 (re3.mono fw4) _ fun ms5 H5 fw5 rs5 v hv => ?_)
              split at e1
              · rename_i acc ea
                split at e1
                · rename_i hlt
                  have fw15 := (fw13.trans fw4).trans fw5
                  obtain ⟨vs5, h1, h2⟩ := rs5.at_ _ _ _ ea (hDn fw15)
                  obtain ⟨fw6, rs6⟩ := rs5.put (o := .lst (vs5 ++ [v])) (u := .lst (acc ++ [y])) ea (hDn fw15) fun f e => ⟨_, e, (f.rlA h2).append (.one (f.rl hv))⟩
                  exact ⟨vs5, h1, by rw [← h2.length]; exact hlt, _, ms5, fw15.trans fw6, rs6, e1⟩
                · cases e1
              · cases e1
            · cases e1
          · rename_i st4 e4
            refine rt env3 st3 _ _ e4 ms3 σ3 H3 rs3 re3 _ fun ms4 H4 fw4 rs4 b hb => ?_
            cases hb
            exact iteF ⟨_, ms4, fw13.trans fw4, rs4, e1⟩
          · cases e1
        · cases e1
      · cases e1
  · cases e0
variable {elt : Expr} {ifs : List Expr} {scope : Scope} {own : List (Str × Nat)} {W : List Nat} {gt : G3} {ft : F3 Bool} {fe : F3 D} {fi : F3 Src}
/-- [elt for tg in e ..] as a value -/
theorem simE_lc (own : List (Str × Nat)) (n : Nat) (hi : SimI c tg e fi) (ok : blkC c.N c.sc scope own = true) (hg : SimG (c.blk scope) tg gt W) (ht : SimTs (c.blk scope) ifs ft) (he : SimE (c.blk scope) elt fe) (hW : ∀ j ∈ W, j ∈ own.map (·.2))
    (hs : ∀ (env : Env) (x : Value), foldedSetIterable e env x = pure x := by intro _ _; rfl) : SimE c (.ListComp elt [⟨tg, e, ifs, 0⟩] scope pos) (fLc n (own.map (·.2)) fi gt ft fe) := by
  obtain ⟨wi, pi, ri⟩ := hi
  obtain ⟨tgt, pg, rg⟩ := hg
  obtain ⟨tt, pt, rt⟩ := ht
  obtain ⟨te, pe, re'⟩ := he
  exact ⟨tLc wi tgt tt te (own.map (·.2)), fun X o => pe_lc o.calm (by rw [o.N]; exact o.nd) (pi X o) (blkOk_by (by rw [o.N, o.sc]; exact ok)) (fun s H C cl fp => pg _ (o.blk s H scope C cl fp)) (fun s H C cl fp => pt _ (o.blk s H scope C cl fp)) (fun s H C cl fp => pe _ (o.blk s H scope C cl fp)) (hs _), rd_lc n ri rg rt re' hW⟩
/-- y = [elt for ..] on one line, y a local name -/
theorem simS_setLc (own : List (Str × Nat)) (n : Nat) (i : Nat) {y : Str} {py spos : Pos} (hy : c.N[i]? = some y) (hyl : c.sc.names.lookup y = some .local) (hk : c.sc.kind = .function) (hl : (py.line == pos.line) = true) (ha : (scope.names.any fun (n, k) => n == y && (k == .local || k == .cell)) = false)
    (hi : SimI c tg e fi) (ok : blkC c.N c.sc scope own = true) (hg : SimG (c.blk scope) tg gt W) (ht : SimTs (c.blk scope) ifs ft) (he : SimE (c.blk scope) elt fe) (hW : ∀ j ∈ W, j ∈ own.map (·.2))
    (hs : ∀ (env : Env) (x : Value), foldedSetIterable e env x = pure x := by intro _ _; rfl) : SimS c (.Assign [.Name y py] (.ListComp elt [⟨tg, e, ifs, 0⟩] scope pos) spos) (fAsg (fLc n (own.map (·.2)) fi gt ft fe) (gVar i)) := by
  obtain ⟨wi, pi, ri⟩ := hi
  obtain ⟨tgt, pg, rg⟩ := hg
  obtain ⟨tt, pt, rt⟩ := ht
  obtain ⟨te, pe, re'⟩ := he
  refine ⟨tAsg (tLc wi tgt tt te (own.map (·.2))) (gName i), fun X o => ps_setLc o.calm (by rw [o.N]; exact o.nd) (by rw [o.N]; exact hy) (by rw [o.sc]; exact hyl) (sw_true (by rw [o.sc]; exact hk) (by rw [o.sc]; exact hyl) hl ha) (pi X o) (blkOk_by (by rw [o.N, o.sc]; exact ok)) (fun s H C cl fp => pg _ (o.blk s H scope C cl fp)) (fun s H C cl fp => pt _ (o.blk s H scope C cl fp)) (fun s H C cl fp => pe _ (o.blk s H scope C cl fp)) (hs _), ?_⟩
  refine rd_asg (W := [i]) (rd_lc n ri rg rt re' hW) ?_
  intro d env st env' st' e ms σ H v rs re hd Q hq
  cases e
  exact hq ms H _ (Fw.refl ms H) rs (re.set i hd) ⟨List.length_set, fun j hj => List.getElem?_set_ne (fun z => hj (by simp [z]))⟩
/-- {k: v for tg in e ..}, keys ints or texts -/
def loopD (src : Src) (gt : G3) (ft : F3 Bool) (fk fv : F3 D) (env0 : Env3) (D : Nat) : Nat → Nat → Sto → Option Sto
  | 0, _, _ => none
  | n + 1, i, st => match src st i with
    | some none => some st
    | some (some d) => match gt d env0 st with
      | some (env1, st1) => match ft env1 st1 with
        | some (.ok true, st2) => match fk env1 st2 with
          | some (.ok y, st3) => match fv env1 st3 with
            | some (.ok z, st4) => match keyK y with
              | some key => match st4[D]? with
                | some (.dK kvs) => if kvs.length < sizeLine then loopD src gt ft fk fv env0 D n (i + 1) (st4.set D (.dK (putG kvs key z))) else none
                | _ => none
              | none => none
            | _ => none
          | _ => none
        | some (.ok false, st2) => loopD src gt ft fk fv env0 D n (i + 1) st2
        | _ => none
      | none => none
    | none => none
def fDc (n : Nat) (vs : List Nat) (fi : F3 Src) (gt : G3) (ft : F3 Bool) (fk fv : F3 D) : F3 D := bnd fi fun src env st => match loopD src gt ft fk fv (wipeE env vs) st.length n 0 (st ++ [.dK []]) with
  | some st' => some (.ok (.loc st.length), st')
  | none => none
theorem rd_dc {g : Gs} {E : XK} {wi : TI} {tgt : TG} {tt : TT} {tk tv : TE} {vs : List Nat} {W : List Nat} {gt : G3} {ft : F3 Bool} {fk fv : F3 D} {fi : F3 Src} (n : Nat) (ri : Rd g E (IOk g) wi fi) (rg : RdG g (Rl g) tgt gt W) (rt : Rd g (fun _ _ _ => False) RelB tt ft) (rk : Rd g (fun _ _ _ => False) (Rl g) tk fk) (rv : Rd g (fun _ _ _ => False) (Rl g) tv fv) (hW : ∀ j ∈ W, j ∈ vs) :
    Rd g E (Rl g) (tDc wi tgt tt tk tv vs) (fDc n vs fi gt ft fk fv) := by
  intro env st rr st' e ms σ H rs re Q hq
  refine ri.bind e rs re (fun src st0 ms0 H0 fw0 rs0 re0 e0 J hJ => ?_) fun c ms1 H1 er fw rs1 => out_er hq er fw rs1
  split at e0
  · rename_i st9 e9
    cases e0
    intro D hD
    obtain ⟨fwA, rsA, qA⟩ := rs0.alloc (o := .dK []) (u := .dK []) hD fun f e => ⟨[], e, .nil⟩
    have hDm : (ms0 ++ [D])[st0.length]? = some D := by
      rw [← rs0.len, List.getElem?_append_right (Nat.le_refl _), Nat.sub_self]
      rfl
    have hDn : ∀ {ms2 H2}, Fw (ms0 ++ [D]) (upd H0 D (.dK [])) ms2 H2 → ms2[st0.length]? = some D := fun {ms2 H2} f => by
      obtain ⟨t, rfl⟩ := f.ms
      rw [List.getElem?_append_left (List.getElem?_eq_some_iff.mp hDm).1]
      exact hDm
    refine ⟨fun i m H1 => ∃ st1 ms1, Fw (ms0 ++ [D]) (upd H0 D (.dK [])) ms1 H1 ∧ Rs g ms1 H1 st1 ∧ loopD src gt ft fk fv (wipeE env vs) st0.length m i st1 = some st', ⟨n, _, _, Fw.refl _ _, rsA, e9⟩, ?_⟩
    rintro i m H1 ⟨st1, ms1, fw1, rs1, e1⟩
    have re1 : Re g ms1 H1 (wipeE env vs) (L2.wipe σ vs) := ((re0.mono fwA).mono fw1).wipe vs
    cases m with
    | zero => cases e1
    | succ m =>
      unfold loopD at e1
      obtain ⟨J1, J2⟩ := hJ ms1 H1 st1 i (fwA.trans fw1) rs1
      split at e1
      · rename_i hs
        cases e1
        exact .inl ⟨J1 hs, hq ms1 H1 ((fw0.trans fwA).trans fw1) rs1 _ (fw1.rl qA)⟩
      · rename_i d hs
        obtain ⟨g1, g2⟩ := J2 d hs
        refine .inr ⟨g1, fun H3 => ∃ st1 ms1, Fw (ms0 ++ [D]) (upd H0 D (.dK [])) ms1 H3 ∧ Rs g ms1 H3 st1 ∧ loopD src gt ft fk fv (wipeE env vs) st0.length m (i + 1) st1 = some st', fun H' h => ⟨m, Nat.lt_succ_self m, h⟩, fun x H2 hy => ?_⟩
        obtain ⟨fw2, rs2, hd⟩ := g2 x H2 hy
        split at e1
        · rename_i env3 st3 e3
          refine rg d _ st1 _ _ e3 ms1 _ H2 x rs2 (re1.mono fw2) hd _ fun ms3 H3 σ3 fw3 rs3 re3 hk => ?_
          refine ⟨wipe_same (hk.1.trans (wipe_length σ vs)) hk.2 hW, ?_⟩
          have fw13 := fw1.trans (fw2.trans fw3)
          split at e1
          · rename_i st4 e4
            refine rt env3 st3 _ _ e4 ms3 σ3 H3 rs3 re3 _ fun ms4 H4 fw4 rs4 b hb => ?_
            cases hb
            split at e1
            · rename_i y st5 e5
              refine iteT (rk env3 st4 _ _ e5 ms4 σ3 H4 rs4 (re3.mono fw4) _ fun ms5 H5 fw5 rs5 v hv => ?_)
              split at e1
              · rename_i z st6 e6
                refine rv env3 st5 _ _ e6 ms5 σ3 H5 rs5 ((re3.mono fw4).mono fw5) _ fun ms6 H6 fw6 rs6 w hw => ?_
                split at e1
                · rename_i key ek
                  split at e1
                  · rename_i kvs ea
                    split at e1
                    · rename_i hlt
                      have fw16 := ((fw13.trans fw4).trans fw5).trans fw6
                      obtain ⟨vs5, h1, h2⟩ := rs6.at_ _ _ _ ea (hDn fw16)
                      obtain ⟨fw7, rs7⟩ := rs6.put (o := .dK (putK vs5 key w)) (u := .dK (putG kvs key z)) ea (hDn fw16) fun f e => ⟨_, e, (h2.mono f).put key (f.rl hw)⟩
                      exact ⟨vs5, key, keyK_ok (fw6.rl hv) ek, h1, by rw [← h2.length]; exact hlt, _, ms6, fw16.trans fw7, rs7, e1⟩
                    · cases e1
                  · cases e1
                · cases e1
              · cases e1
            · cases e1
          · rename_i st4 e4
            refine rt env3 st3 _ _ e4 ms3 σ3 H3 rs3 re3 _ fun ms4 H4 fw4 rs4 b hb => ?_
            cases hb
            exact iteF ⟨_, ms4, fw13.trans fw4, rs4, e1⟩
          · cases e1
        · cases e1
      · cases e1
  · cases e0
theorem simE_dc {kx vx : Expr} {fk fv : F3 D} (own : List (Str × Nat)) (n : Nat) (hi : SimI c tg e fi) (ok : blkC c.N c.sc scope own = true) (hg : SimG (c.blk scope) tg gt W) (ht : SimTs (c.blk scope) ifs ft) (hk : SimE (c.blk scope) kx fk) (hv : SimE (c.blk scope) vx fv) (hW : ∀ j ∈ W, j ∈ own.map (·.2))
    (hs : ∀ (env : Env) (x : Value), foldedSetIterable e env x = pure x := by intro _ _; rfl) : SimE c (.DictComp kx vx [⟨tg, e, ifs, 0⟩] scope pos) (fDc n (own.map (·.2)) fi gt ft fk fv) := by
  obtain ⟨wi, pi, ri⟩ := hi
  obtain ⟨tgt, pg, rg⟩ := hg
  obtain ⟨tt, pt, rt⟩ := ht
  obtain ⟨tk, pk, rk⟩ := hk
  obtain ⟨tv, pv, rv⟩ := hv
  exact ⟨tDc wi tgt tt tk tv (own.map (·.2)), fun X o => pe_dc o.calm (by rw [o.N]; exact o.nd) (pi X o) (blkOk_by (by rw [o.N, o.sc]; exact ok)) (fun s H C cl fp => pg _ (o.blk s H scope C cl fp)) (fun s H C cl fp => pt _ (o.blk s H scope C cl fp)) (fun s H C cl fp => pk _ (o.blk s H scope C cl fp)) (fun s H C cl fp => pv _ (o.blk s H scope C cl fp)) (hs _), rd_dc n ri rg rt rk rv hW⟩
end
end S3

set_option maxHeartbeats 2000000
/-! S3I: defs, calls of defs, raise. -/
namespace S3
open PySem PySem.Spec PyProof.Rows L2

theorem lev {a b : Nat} (h : Nat.ble a b = true := by rfl) : a ≤ b := Nat.le_of_ble_eq_true h

/-! ### defs -/
abbrev FD := List D → Sto → Option (R3 D × Sto)
def spOf (g : Gs) (n : Nat) (fd : FD) : Sp := fun vs H Q E => ∃ ds ms st r st', ds.length = n ∧ Rs g ms H st ∧ RlA g ms H ds vs ∧ fd ds st = some (r, st') ∧ ∀ ms' H', Fw ms H ms' H' → Rs g ms' H' st' → Out g E (Rl g) r Q ms' H'
structure DefOk (g : Gs) (k : Nat) (x : Str) (st : Stmt) (ps : List Str) (fd : FD) : Prop where
  ex : ∃ (f : Addr) (fdat : FuncData), L2.Fun g.K x x st f fdat ∧ g.mg x = some (.ref f) ∧ FnOk g.P g.w g.K g.mg g.base (L2.CX g.P g.w) k f fdat ps (spOf g ps.length fd)
theorem DefOk.mono {g : Gs} {j k : Nat} {x : Str} {st : Stmt} {ps : List Str} {fd : FD} (d : DefOk g j x st ps fd) (h : j ≤ k) : DefOk g k x st ps fd := by
  obtain ⟨f, fdat, a, b, c⟩ := d.ex
  exact ⟨f, fdat, a, b, c.mono h⟩
def fdOf (n : Nat) (fs : FS) : FD := fun ds st => match fs (ds.map some ++ List.replicate (n - ds.length) none) st with
  | some (.nx, _, st') => some (.ok .non, st')
  | some (.rt d, _, st') => some (.ok d, st')
  | some (.er c, _, st') => some (.er c, st')
  | _ => none
theorem re_start {g : Gs} {ms : List Addr} {H : Hp} {N : List Str} {ds : List D} {vs : List V} (r : RlA g ms H ds vs) : Re g ms H (ds.map some ++ List.replicate (N.length - ds.length) none) (L2.start N vs) := by
  have hl := r.length
  refine ⟨by unfold L2.start; simp [hl], fun i d e => ?_⟩
  by_cases hi : i < ds.length
  · rw [List.getElem?_append_left (by simpa using hi), List.getElem?_map] at e
    cases hd : ds[i]? with
    | none =>
      rw [hd] at e
      cases e
    | some d' =>
      rw [hd] at e
      cases e
      obtain ⟨v, h1, h2⟩ := r.get hd
      refine ⟨v, ?_, h2⟩
      unfold L2.start
      rw [List.getElem?_append_left (by simpa [← hl] using hi), List.getElem?_map, h1]
      rfl
  · rw [List.getElem?_append_right (by simpa using hi)] at e
    have := List.mem_of_getElem? e
    simp at this
/-- a def's context -/
def defC (g : Gs) (N : List Str) (st : Stmt) (k : Nat) (E : XK) : Cxt := { g := g, N := N, sc := defScope st, k := k, E := E, own := fun _ => true }
/-- a reading of a def's body, at its entry -/
theorem spOf_body {g : Gs} {N : List Str} {n : Nat} {E : XK} {t : TS} {fs : FS} (rt : RdS g E t fs) {vs : List V} {H : Hp} {Q : VK} (h : spOf g n (fdOf N.length fs) vs H Q E) : t { nx := fun _ H' => Q .non H', rt := Q } (L2.start N vs) H := by
  obtain ⟨ds, ms, st, r, st', hl, rs, ra, e, hq⟩ := h
  unfold fdOf at e
  split at e
  · rename_i env1 st1 e1
    cases e
    exact rt _ _ _ _ _ e1 ms _ H rs (re_start ra) _ fun ms1 H1 σ1 fw rs1 re1 => hq ms1 H1 fw rs1 _ .non
  · rename_i d env1 st1 e1
    cases e
    exact rt _ _ _ _ _ e1 ms _ H rs (re_start ra) _ fun ms1 H1 σ1 fw rs1 re1 v hv => hq ms1 H1 fw rs1 v hv
  · rename_i c env1 st1 e1
    cases e
    exact rt _ _ _ _ _ e1 ms _ H rs (re_start ra) _ fun ms1 H1 σ1 fw rs1 re1 => hq ms1 H1 fw rs1
  · cases e
theorem spOf_len {g : Gs} {n : Nat} {fd : FD} : ∀ vs H Q E, spOf g n fd vs H Q E → vs.length = n := fun vs H Q E h => by
  obtain ⟨ds, ms, st, r, st', hl, rs, ra, e, hq⟩ := h
  rw [← hl, ra.length]
theorem defOk_of {g : Gs} {k : Nat} {x : Str} {st : Stmt} {ps N : List Str} {f : Addr} {fdat : FuncData} {fs : FS} (F : L2.Fun g.K x x st f fdat) (hm : g.mg x = some (.ref f)) (S : FnScope N ps (defScope st)) (h : ∀ E, SimSs (defC g N st k E) (defBody st) fs) : DefOk g (k + 1) x st ps (fdOf N.length fs) := by
  refine ⟨f, fdat, F, hm, F.okX S spOf_len fun cdv A outer s H vs Q E hr hsp => ?_⟩
  obtain ⟨t, pt, rt⟩ := h E
  refine ⟨t, pt _ ⟨rfl, rfl, rfl, rfl, rfl, rfl, rfl, rfl, hr, fun z => (by cases z), fun _ _ z => (by cases z), S.nd, fun _ _ => rfl, passes_of rfl, takes_of rfl rfl rfl rfl⟩, spOf_body rt hsp⟩

/-! ### calls -/
def fCall (n : Nat) (fd : FD) (fr : F3 (List D)) : F3 D := bnd fr fun ds _ st => if ds.length = n then fd ds st else none
section
variable {c : Cxt} {a b e : Expr} {es : List Expr} {fa fb : F3 D} {fr : F3 (List D)} {pos p p2 : Pos} {x : Str} {k : Nat} {st : Stmt} {ps : List Str} {fd : FD}
theorem Rd.call {E : XK} {g : Gs} {t : TA} {n : Nat} (r : Rd g E (RlA g) t fr) : Rd g E (Rl g) (tCall (spOf g n fd) [] E t) (fCall n fd fr) := by
  intro env st rr st' e ms σ H rs re Q hq
  refine r.bind e rs re (fun ds st1 ms1 H1 fw rs1 re1 e1 vs hv => ?_) fun c ms1 H1 er fw rs1 => out_er hq er fw rs1
  split at e1
  · rename_i hl
    show spOf g n fd (vs ++ []) H1 Q E
    rw [List.append_nil]
    exact ⟨ds, ms1, st1, rr, st', hl, rs1, hv, e1, fun ms2 H2 fw2 rs2 => hq ms2 H2 (fw.trans fw2) rs2⟩
  · cases e1
theorem OkX.fn_ok {X : Cx} (o : OkX c X) {f : Addr} {fdat : FuncData} {sp : Sp} (h : FnOk c.g.P c.g.w c.g.K c.g.mg c.g.base (L2.CX c.g.P c.g.w) k f fdat ps sp) : FnOk X.prog X.w X.K X.mg X.base (L2.CX X.prog X.w) k f fdat ps sp := by
  rw [o.prog, o.w, o.K, o.mg, o.base]
  exact h
abbrev BindsBy (x : Str) (st : Stmt) (n : Nat) (ps : List Str) : Prop := ∀ (kV doc pm : Value) (an : Option Addr) (cdv ct : Value) (us : List Value), us.length = n → bindArgs (PySem.W.fnOf x x (defArgs st) (defBody st) (defScope st) .none kV doc pm an cdv ct) ⟨us, []⟩ = pure (ps.zip us)
theorem simE_call {n : Nat} (F : DefOk c.g k x st ps fd) (hk : k ≤ c.k) (hg : glB c.sc x = true) (hb : BindsBy x st n ps) (ha : SimA c (e :: es) fr) (hn : n = ps.length := by rfl) (hp : plainA (e :: es) = true := by rfl) : SimE c (.Call (.Name x p) (e :: es) [] pos) (fCall n fd fr) := by
  subst hn
  obtain ⟨t, q, r⟩ := ha
  obtain ⟨f, fdat, Fu, hm, Fn⟩ := F.ex
  obtain ⟨h1, h2⟩ := plain_head hp
  exact ⟨_, fun X o => pe_call (o.fn_ok Fn) (o.room.mono hk) (o.gl hg) (by rw [o.mg]; exact hm) (by rw [o.K]; exact Fu.kp) (by rw [o.K]; exact Fu.binds hb) .nil o.pass (q X o) (glB_nd hg) (starEach_plain h1) (star_any h2), r.call⟩
theorem simE_call0 (F : DefOk c.g k x st [] fd) (hk : k ≤ c.k) (hg : glB c.sc x = true) (hb : BindsBy x st 0 []) : SimE c (.Call (.Name x p) [] [] pos) (fCall 0 fd fNil) := by
  obtain ⟨f, fdat, Fu, hm, Fn⟩ := F.ex
  have hn : Rd c.g c.E (RlA c.g) tNil fNil := Rd.ret (fun _ _ => .nil) fun _ _ _ h => by cases h; rfl
  exact ⟨_, fun X o => pe_call0 (o.fn_ok Fn) (o.room.mono hk) (o.gl hg) (by rw [o.mg]; exact hm) (by rw [o.K]; exact Fu.kp) (by rw [o.K]; exact Fu.binds hb) .nil o.pass (glB_nd hg), hn.call⟩

/-! ### keywords only -/
def kwE (ks : List Keyword) : List Expr := ks.map fun k => match k with | ⟨_, e, _⟩ => e
def SimK (c : Cxt) (kws : List Keyword) (f : F3 (List D)) : Prop := ∃ t : TA, (∀ X, OkX c X → PK X kws t) ∧ Rd c.g c.E (RlA c.g) t f
theorem simK_nil : SimK c [] fNil := ⟨tNil, fun X o => pk_nil, Rd.ret (fun _ _ => .nil) fun _ _ _ h => by cases h; rfl⟩
theorem simK_cons {nm : Option Str} {kpos : Pos} {kws : List Keyword} (ha : SimE c a fa) (hr : SimK c kws fr) : SimK c (⟨nm, a, kpos⟩ :: kws) (fCons fa fr) := by
  obtain ⟨t, q, r⟩ := ha
  obtain ⟨t2, q2, r2⟩ := hr
  exact ⟨tCons t t2, fun X o => pk_cons (q X o) (q2 X o), r.cons r2⟩
/-- the keywords' values in the parameters' order: is tells which keyword stands for the parameter -/
def perm {α : Type} (is : List Nat) (l : List α) : Option (List α) := is.mapM fun i => l[i]?
def fCallK (is : List Nat) (fd : FD) (fr : F3 (List D)) : F3 D := bnd fr fun ds _ st => if ds.length = is.length then (match perm is ds with
  | some es => fd es st
  | none => none) else none
theorem perm_len {α : Type} : ∀ {is : List Nat} {l m : List α}, perm is l = some m → m.length = is.length
  | [], _, m, h => by
    have z : some [] = some m := h
    cases z
    rfl
  | i :: is, l, m, h => by
    unfold perm at h
    rw [List.mapM_cons] at h
    cases h1 : l[i]? with
    | none => rw [h1] at h; cases h
    | some x =>
      rw [h1] at h
      cases h2 : is.mapM (fun i => l[i]?) with
      | none => rw [h2] at h; cases h
      | some ys =>
        rw [h2] at h
        cases h
        rw [List.length_cons, perm_len (l := l) h2, List.length_cons]
theorem perm_rel {α β : Type} {R : List α → List β → Prop} {is : List Nat} : ∀ {l m : List α} {k : List β}, (∀ (i : Nat) (x : α), l[i]? = some x → ∃ y, k[i]? = some y ∧ R [x] [y]) → (R [] []) → (∀ x y xs ys, R [x] [y] → R xs ys → R (x :: xs) (y :: ys)) → perm is l = some m → ∃ n, perm is k = some n ∧ R m n := by
  induction is with
  | nil =>
    intro l m k h h0 hc e
    have z : some [] = some m := e
    cases z
    exact ⟨[], rfl, h0⟩
  | cons i is ih =>
    intro l m k h h0 hc e
    unfold perm at e ⊢
    rw [List.mapM_cons] at e ⊢
    cases h1 : l[i]? with
    | none => rw [h1] at e; cases e
    | some x =>
      rw [h1] at e
      cases h2 : is.mapM (fun i => l[i]?) with
      | none => rw [h2] at e; cases e
      | some ys =>
        rw [h2] at e
        cases e
        obtain ⟨y, k1, k2⟩ := h i x h1
        obtain ⟨n, k3, k4⟩ := ih h h0 hc h2
        unfold perm at k3
        rw [k1, k3]
        exact ⟨y :: n, rfl, hc _ _ _ _ k2 k4⟩
theorem simE_callK {kws : List Keyword} {ks : List Str} (is : List Nat) (F : DefOk c.g k x st ps fd) (hk : k ≤ c.k) (hg : glB c.sc x = true) (hlen : is.length = ps.length) (hks : ∀ env : Env, (backToKw pos (keywordEach kws env)).filterMap (·.1) = ks) (hall : ∀ env : Env, (backToKw pos (keywordEach kws env)).all (·.1.isSome) = true)
    (hno : ∀ env : Env, ((backTo pos (starEach [] env)).any (·.1) || (backToKw pos (keywordEach kws env)).any (·.1.isNone)) = false)
    (hb : ∀ (kV doc pm : Value) (an : Option Addr) (cdv ct : Value) (ws ys : List Value), ws.length = is.length → perm is ws = some ys → bindArgs (PySem.W.fnOf x x (defArgs st) (defBody st) (defScope st) .none kV doc pm an cdv ct) ⟨[], ks.zip ws⟩ = pure (ps.zip ys)) (ha : SimK c kws fr) : SimE c (.Call (.Name x p) [] kws pos) (fCallK is fd fr) := by
  obtain ⟨t, q, r⟩ := ha
  obtain ⟨f, fdat, Fu, hm, Fn⟩ := F.ex
  refine ⟨fun σ H Q => t σ H fun zs H2 => zs.length = is.length ∧ ∃ ys, perm is zs = some ys ∧ spOf c.g ps.length fd ys H2 Q c.E, fun X o => ?_, ?_⟩
  · refine ⟨fun pins s σ H Q I h => wpAny_Call_Name_kw (ld_glob I (o.gl hg) (by rw [o.mg]; exact hm) ?_ (glB_nd hg))⟩
    refine PySem.W.callWith_KW0 (h₀ := X.base) I.ok.mod.kin (by rw [o.K]; exact Fu.kp) (hall X.env) (thn ((q X o).run pos pins s σ H _ I h) fun ws s2 hw => ?_) (hno X.env)
    obtain ⟨zs, H2, I2, rz, hz, ys, hys, hsp⟩ := hw
    refine ⟨I2.kIn, ?_⟩
    rw [hks X.env]
    obtain ⟨us, hu1, hu2⟩ := perm_rel (R := fun xs us => Vals xs us) (fun i y hy => by
      obtain ⟨u, h1, h2⟩ := rz.get hy
      exact ⟨u, h1, .cons h2 .nil⟩) .nil (fun _ _ _ _ h1 h2 => by
        cases h1 with
        | cons h _ => exact .cons h h2) hys
    have bd : bindArgs fdat ⟨[], ks.zip ws⟩ = pure (ps.zip us) := by
      obtain ⟨oc, od, kV, doc, pm, an, cdv, ct, osl, rfl, _, _⟩ := Fu.ex
      exact hb kV doc pm an cdv ct ws us (by rw [← rz.length]; exact hz) hu1
    refine wpAny_call (codeAny_mono ((o.fn_ok Fn).run X.A X.stack s2 H2 ⟨[], ks.zip ws⟩ us ys Q c.E (o.room.mono hk) I2.env0 (.of_eq bd) hu2 hsp) fun r' s' hr => ?_)
    cases r' with
    | error e => exact o.pass pins σ H2 s2 e s' I2 hr
    | ok fl => cases fl <;> first | exact I2.after hr | exact hr.elim
  · intro env st0 rr st' e ms σ H rs re Q hq
    refine r.bind e rs re (fun ds st1 ms1 H1 fw rs1 re1 e1 vs hv => ?_) fun c ms1 H1 er fw rs1 => out_er hq er fw rs1
    split at e1
    · rename_i hl
      split at e1
      · rename_i es he
        obtain ⟨ys, hy1, hy2⟩ := perm_rel (R := fun xs us => RlA c.g ms1 H1 xs us) (fun i y hy => by
          obtain ⟨u, h1, h2⟩ := hv.get hy
          exact ⟨u, h1, .one h2⟩) .nil (fun _ _ _ _ h1 h2 => by
            cases h1 with
            | cons h _ => exact .cons h h2) he
        exact ⟨by rw [← hv.length]; exact hl, ys, hy1, es, ms1, st1, rr, st', by rw [perm_len he, hlen], rs1, hy2, e1, fun ms2 H2 fw2 rs2 => hq ms2 H2 (fw.trans fw2) rs2⟩
      · cases e1
    · cases e1

/-! ### raise -/
/-- what is known of an own class of exceptions: bm, the base's rows -/
structure ExcOk (g : Gs) (bm : List Value) (newId : String) (x : Str) (i : Nat) : Prop where
  exc : PySem.W.excIn g.K (g.cl i) bm newId = true
  mg : g.mg x = some (.ref (g.cl i))
  kp : PySem.W.keepIn g.K (.ref (g.cl i)) = true
  sub : PySem.W.subIn g.K (.ref (g.cl i)) (.type "BaseException") = some true
  ty : PySem.W.typeIn g.K (.ref (g.cl i)) = some (.type "type")
theorem simS_raise {p3 : Pos} {B newId initId : String} {bm : List Value} {i j : Nat} {m : Str} (F : ExcBaseFacts B newId initId bm) (h : ExcOk c.g bm newId x i) (hg : glB c.sc x = true) : SimS c (.Raise (some (.Call (.Name x p) [.Constant (.str m) j p2] [] pos)) none p3) (fun env st => some (.er i, env, st)) := by
  refine ⟨_, fun X o => ps_raise o.calm o.tk (pmk_own F (by rw [o.K]; exact h.exc) (by rw [o.mg]; exact h.mg) (by rw [o.K]; exact h.kp) (raises_own (by rw [o.K]; exact h.sub) (by rw [o.K]; exact h.ty)) (o.gl hg) (glB_nd hg)), ?_⟩
  intro env st r env' st' e ms σ H rs re Dn hq
  cases e
  exact hq ms H σ (Fw.refl ms H) rs re
end
end S3

set_option maxHeartbeats 2000000
/-! S3J: an exception that is caught, kept as a value and asked for its class; lambdas handed to the catcher. -/
namespace S3
open PySem PySem.Spec PyProof.Rows L2

section
variable {X : Cx} {pins : List (Addr × Obj)} {σ : L2.St} {H : Hp} {s0 s1 : Shared} {B : Heap} {a : Addr}
/-- the caught object is tracked from now on -/
theorem land_held {C : Addr} {oe : Obj} {vs : Array Value} (I : Inv X pins σ H s0) (gr : ∀ b o, s0.heap.get? b = some o → b ∉ frs X.stack → B.get? b = some o) (bk : B.StaysIn s1.heap) (up : s0.heap.UpToSlots s1.heap) (eo : s1.os = s0.os) (eg : AllBare s1.gens)
    (ba : B.get? a = none) (fa : a ∉ frs X.stack) (na : H a = none) (he : s1.heap.get? a = some oe) (hz : Zc (.ref C) none oe) (hd : oe.data = .fields vs) : Inv X pins σ (upd H a (ExV C a)) s1 := by
  have n0 : ∀ b o, s0.heap.get? b = some o → b ≠ a := fun b o e z => by
    have q := gr b o e (by rw [z]; exact fa)
    rw [z, ba] at q
    cases q
  have frm : ∀ b o, b ∈ frs X.stack → s0.heap.get? b = some o → ∃ sl, s1.heap.get? b = some { o with slots := sl } := fun b o hb e => by
    obtain ⟨_, u, e2, hu⟩ := I.stack.mem hb
    rw [e] at e2
    cases e2
    exact up b o e hu
  have J := I.call (ch := []) (h' := s1.heap) (g' := s1.gens) (t' := s1.toks) (d' := s1.drawn) (H' := upd H a (ExV C a))
    ⟨fun b o e _ hb _ => bk b o (gr b o e hb), fun b o e _ hb _ => frm b o hb e, fun b o e n _ => (upd_ne (n0 b o e)).trans n, fun b o e _ => by
      by_cases hb : b ∈ frs X.stack
      · exact ⟨_, (frm b o hb e).choose_spec⟩
      · exact ⟨o, bk b o (gr b o e hb)⟩, fun b xs e => (upd_ne (ne_of_none e na)).trans e, fun b o xs e => (upd_ne (ne_of_none e na)).trans e, fun b ps e => ⟨#[], by rw [upd_ne (ne_of_none e na), e]; simp⟩⟩
    ((I.inGround gr).laidN bk na ⟨⟨oe, vs, he, hz, hd⟩, ⟨oe, he⟩, fun _ _ ⟨o, v, q, r⟩ k => ⟨o, v, k o q, r⟩⟩) eg (fun _ z => nomatch z)
  obtain ⟨h, g, d, t, os⟩ := s1
  obtain rfl : os = s0.os := eo
  exact J
theorem Inv.toSuite (I : Inv X pins σ H s0) : Inv (X.suite a (X.pn ++ pins)) [] σ H s0 :=
  ⟨I.ok.suite _ _, I.os, I.bare, I.base, I.loc, I.cell, I.free, I.freeC, fun p hp => I.pin p (by rw [List.append_nil] at hp; exact hp), I.hok, I.len⟩
theorem Inv.ofSuite {pn' : List (Addr × Obj)} (I : Inv (X.suite a (X.pn ++ pins)) pn' σ H s0) (ok : X.Ok) : Inv X pins σ H s0 :=
  ⟨ok, I.os, I.bare, I.base, I.loc, I.cell, I.free, I.freeC, fun p hp => I.pin p (List.mem_append_left _ hp), I.hok, I.len⟩
end

/-- what a clause wishes that keeps the caught object -/
def wKeep (K : PySem.W.Frag) (cls0 : Value) (i : Nat) (ts : TS) (Dn : Ends) : WX := fun cls d σ H => PySem.W.exmOne K cls cls0 = some true ∧ d = none ∧ ∃ C, cls = .ref C ∧ ∀ a, H a = none →
  ts { nx := fun σ' H' => Dn.nx (σ'.set i none) H', rt := Dn.rt, bk := fun σ' H' => Dn.bk (σ'.set i none) H', ct := fun σ' H' => Dn.ct (σ'.set i none) H' } (σ.set i (some (.ref a))) (upd H a (ExV C a))
section
variable {X : Cx} {x n : Str} {cls0 : Value} {i : Nat} {body suite : List Stmt} {b0 : Stmt} {np pos pos2 : Pos} {tb : WX → TS} {ts : TS}
/-- try: .. / except x as n: .., where x's class takes whatever comes -/
theorem ps_try_keep (hs : X.stack = X.env :: X.outer) (hf : X.env.frame = some X.env.locals) (hN : X.N.Nodup) (hi : X.N[i]? = some n) (hln : X.env.kindOf n = some .local) (hc : Names X x cls0)
    (hb : ∀ (W : WX) (pn : List (Addr × Obj)) (xe : Value → Shared → Prop), Takes (X.tr pn xe) W → PSs (X.tr pn xe) body (tb W))
    (hsu : ∀ (a : Addr) (pn : List (Addr × Obj)), PSs (X.suite a pn) (b0 :: suite) ts) :
    PS X (.Try body [.ExceptHandler (some (.Name x np)) (some n) (b0 :: suite) pos2] [] [] pos) (fun Dn σ H => tb (wKeep X.K cls0 i ts Dn) Dn σ H) := by
  refine ⟨fun pins s σ H Dn I h => wpAny_Try_except ?_⟩
  have ok := I.ok
  have afr : X.A.frames = some (X.env :: X.outer) := by rw [ok.frames, hs]
  have body_ := (hb (wKeep X.K cls0 i ts Dn) (X.pn ++ pins) (fun e t1 => wpAny (model X.prog X.w) X.A (noteFrame e X.env) (fun _ t2 => wpAny (model X.prog X.w) X.A (setFlight e none) (fun _ t3 =>
    wpAny (model X.prog X.w) X.A (handleBy e X.env [.ExceptHandler (some (.Name x np)) (some n) (b0 :: suite) pos2]) (SP X pins Dn) X.xe t3) X.xe t2) X.xe t1) fun u t0 air => ?_).run [] s σ H Dn (I.toTry _) h
  · refine wpAny_mono body_ (fun f t1 q => ?_) fun _ _ q => q
    cases f with
    | ret u =>
      obtain ⟨v, τ, G, J, r, w⟩ := q
      exact ⟨v, τ, G, J.ofTry ok, r, w⟩
    | next =>
      obtain ⟨τ, G, J, w⟩ := q
      exact wpAny_execs_nil ⟨τ, G, J.ofTry ok, w⟩
    | brk =>
      obtain ⟨τ, G, J, w⟩ := q
      exact ⟨τ, G, J.ofTry ok, w⟩
    | cont =>
      obtain ⟨τ, G, J, w⟩ := q
      exact ⟨τ, G, J.ofTry ok, w⟩
  · obtain ⟨a, B, s0, pins0, τ, G, cls, d, rfl, J0, gr, up, sky, na, eo, eg, tst, rfl, C, rfl, hyes⟩ := air
    have J : Inv X pins τ G s0 := J0.ofTry ok
    show wpAny (model X.prog X.w) X.A (noteFrame (.ref a) X.env) _ _ _
    have sky2 : Sky B (X.env :: X.outer) a (Zc (.ref C) none) X.env.locals t0.heap := by rw [← hs]; exact sky
    refine Sky.land Zc.steady afr hf sky2 fun h3 fl3 up3 => ?_
    have notF : ∀ {h : Heap} {o : Obj} {vs : Array Value}, h.FunFrames B (X.env :: X.outer) → h.get? a = some o → o.data = .fields vs → a ∉ frs X.stack := fun {h o vs} ff e dd hm => by
      rw [hs] at hm
      obtain ⟨_, o2, e2, no⟩ := ff.mem hm
      rw [e] at e2
      cases e2
      exact no _ dd
    obtain ⟨oe3, vs3, he3, hz3, hd3⟩ := fl3.there
    have nf := notF fl3.2.2.1 he3 hd3
    have J3 : Inv X pins τ (upd G a (ExV C a)) { t0 with heap := h3 } := land_held J gr fl3.1 (up.trans up3) eo eg fl3.2.1 nf na he3 hz3 hd3
    refine wpAny_handleBy_cons (codeAny_handlers_test ?_) (by intro q; cases q)
    have ty : PySem.W.Looks (model X.prog X.w) h3 (typeOf (.ref a)) (.ref C) := fun A Q E s k q => wpAny_typeOf_ref (k _ _ he3) (by rw [hz3.1]; exact q)
    have named : ∀ {Q : Value → Shared → Prop} {E : Value → Shared → Prop}, Q cls0 { t0 with heap := h3 } → wpAny (model X.prog X.w) (X.A.mark (some (.ref a))) (eval (.Name x np) X.env) Q E { t0 with heap := h3 } := fun {Q E} q => by
      have S3' : Inv (X.suite a (X.pn ++ pins)) [] τ (upd G a (ExV C a)) { t0 with heap := h3 } := Inv.toSuite J3
      obtain ⟨g1, g2, g3 | ⟨g3, g4, g5⟩⟩ := hc
      · exact ld_glob (X := X.suite a (X.pn ++ pins)) S3' g1 g3 q g2
      · exact ld_blt (X := X.suite a (X.pn ++ pins)) S3' g1 g3 g4 q g5 g2
    refine named ((PySem.W.exm_one (M := model X.prog X.w) J3.kIn ty tst).here (codeAny_handlers_suite_as ?_))
    refine HandSPX.lands_againZ fl3 fun h4 fl4 up4 => ?_
    obtain ⟨oe4, vs4, he4, hz4, hd4⟩ := fl4.there
    have J4 : Inv X pins τ (upd G a (ExV C a)) { t0 with heap := h4 } := land_held J gr fl4.1 ((up.trans up3).trans up4) eo eg fl4.2.1 nf na he4 hz4 hd4
    refine store_ok (X := X.suite a (X.pn ++ pins)) (v := .ref a) (Inv.toSuite J4) hN hi (.inl hln) rfl (fun s5 J5 => ?_) (.inr hln)
    refine wpAny_mono ((hsu a (X.pn ++ pins)).run [] s5 _ _ _ J5 (hyes a na)) (fun f s6 q => ?_) fun _ _ z => False.elim z
    have fin : ∀ {τ6 : L2.St} {G6 : Hp} {Q : Shared → Prop}, Inv (X.suite a (X.pn ++ pins)) [] τ6 G6 s6 → (∀ s7, Inv X pins (τ6.set i none) G6 s7 → Q s7) → wpAny (model X.prog X.w) X.A (do bindName X.env n .none; unbindBehindTheSuite X.env n pos2) (fun _ s7 => Q s7) X.xe s6 :=
      fun {τ6 G6 Q} J6 k => gone_ok (Inv.ofSuite J6 ok) hN hi hln k
    cases f with
    | ret u =>
      obtain ⟨v, τ6, G6, J6, r, w⟩ := q
      exact fin J6 fun s7 J7 => ⟨_, _, _, J7, r, w⟩
    | next =>
      obtain ⟨τ6, G6, J6, w⟩ := q
      exact fin J6 fun s7 J7 => ⟨_, _, J7, w⟩
    | brk =>
      obtain ⟨τ6, G6, J6, w⟩ := q
      exact fin J6 fun s7 J7 => ⟨_, _, J7, w⟩
    | cont =>
      obtain ⟨τ6, G6, J6, w⟩ := q
      exact fin J6 fun s7 J7 => ⟨_, _, J7, w⟩
end
end S3

set_option maxHeartbeats 2000000
/-! S3K: the catcher and its lambdas. -/
namespace S3
open PySem PySem.Spec PyProof.Rows L2

/-- what the catcher makes of the lambda's reading -/
def TKeep (K : PySem.W.Frag) (cls0 : Value) : (XK → Hp → VK → Prop) → Hp → VK → Prop := fun tl H Q =>
  tl (fun cls d H' => PySem.W.exmOne K cls cls0 = some true ∧ d = none ∧ ∃ C, cls = .ref C ∧ ∀ a, H' a = none → Q (.ref a) (upd H' a (ExV C a))) H (fun _ H' => Q .non H')
/-- the catcher's body -/
def catchB (w er ca ex : Str) (p1 p2 p3 p4 p5 p6 p7 p8 p9 p10 p11 p12 p13 p14 p15 p16 : Pos) : List Stmt :=
  [.Assign [.Name er p1] (.Constant .none 0 p2) p3,
   .Try [.Expr (.Call (.Name w p4) [] [] p5) p6] [.ExceptHandler (some (.Name ex p7)) (some ca) [.Assign [.Name er p8] (.Name ca p9) p10] p11] [] [] p12,
   .Return (some (.Name er p13)) p14]
theorem catch_gives {X : Cx} {x w er ca ex q : Str} {sg : Scope} {g CS : Addr} {cdg : Value} {p1 p2 p3 p4 p5 p6 p7 p8 p9 p10 p11 p12 p13 p14 p15 p16 : Pos} (hnd : [w, er, ca].Nodup)
    (h1 : sg.names.lookup w = some .local) (h2 : sg.names.lookup er = some .local) (h3 : sg.names.lookup ca = some .local) (h4 : sg.names.lookup ex = some .globalImplicit) (hm : X.mg ex = some (.ref CS)) (d4 : (ex == ("__debug__" : Str)) = false)
    (d2 : (er == ("__debug__" : Str)) = false) (d3 : (ca == ("__debug__" : Str)) = false) (c2 : (er == ("__classdict__" : Str)) = false) (c3 : (ca == ("__classdict__" : Str)) = false) :
    LamX.GivesTo X [w, er, ca] x sg g cdg (catchB w er ca ex p1 p2 p3 p4 p5 p6 p7 p8 p9 p10 p11 p12 p13 p14 p15 p16) w q (TKeep X.K (.ref CS)) := by
  intro f c' s H Q tl act hc h
  have v2 : Vis sg er := .inl h2
  have v3 : Vis sg ca := .inl h3
  refine ⟨_, pss_cons (ps_set (i := 1) hnd rfl (.inl h2) pe_non (by rfl) (.inr h2)) (pss_cons (ps_try_keep (X := (cxOf C8.CX0 X.prog X.w X.K X.mg X.base [w, er, ca] x sg g cdg X.A X.stack s H C8.E0).nox) (cls0 := .ref CS) (i := 2)
      (tb := fun W Dn σ H => ∃ Ech : XK, (∀ cls d σ' H', Ech cls d H' → σ'.length = 3 → W cls d σ' H') ∧ σ[0]? = some (some (.ref f)) ∧ H c' = some (LamX.CodeO c' q) ∧ tl Ech H fun _ H' => Dn.nx σ H')
      (ts := tAsg (tVar 2) (gName 1)) rfl rfl hnd rfl h3 ⟨h4, d4, .inl hm⟩ (fun W pn xe tk => ?_) fun a pn => ?_) (pss_one (ps_ret (pe_var (i := 1) rfl v2 d2 c2)))), ?_⟩
  · refine ⟨fun pins s' σ H' Dn I hh => ?_⟩
    obtain ⟨Ech, hW, k1, k2, k3⟩ := hh
    have tk2 : Takes ((cxOf C8.CX0 X.prog X.w X.K X.mg X.base [w, er, ca] x sg g cdg X.A X.stack s H C8.E0).tr pn xe) (fun cls d σ' H' => σ'.length = 3 → W cls d σ' H') := fun u s2 ⟨a, B, sI, pins2, σ2, H2, cls, d, e, J, nb, up, sky, na, os, ag, ww⟩ => tk u s2 ⟨a, B, sI, pins2, σ2, H2, cls, d, e, J, nb, up, sky, na, os, ag, ww J.len⟩
    have hp := act _ pn xe Ech p4 p5 tk2 fun cls d σ' H' z l => hW cls d σ' H' z l
    exact (pss_one (ps_expr (pos := p6) hp (by rfl))).run pins s' σ H' Dn I ⟨k1, k2, k3⟩
  · exact pss_one (ps_set (i := 1) hnd rfl (.inl h2) (pe_var (i := 2) rfl v3 d3 c3) (by rfl) (.inr h2))
  · have eq : (fun (_ : V) H' => Q V.non H') = fun _ H' => tRet (tVar 1) { nx := fun _ H' => Q .non H', rt := Q } ((L2.start [w, er, ca] [V.ref f]).set 1 (some V.non)) H' := by
      funext _ H'
      exact propext ⟨fun z => ⟨.non, rfl, z⟩, fun ⟨v, z1, z2⟩ => by
        cases z1
        exact z2⟩
    unfold TKeep at h
    rw [eq] at h
    refine ⟨_, fun cls d σ' H' ⟨e1, e2, C, e3, e4⟩ hl => ⟨e1, e2, C, e3, fun a ha => ?_⟩, rfl, hc, h⟩
    match σ', hl with
    | [u0, u1, u2], _ => exact ⟨_, rfl, _, rfl, e4 a ha⟩

section
variable {c : Cxt} {body : Expr} {fb : F3 D} {scope : Scope} {params : Arguments} {lpos pos p : Pos}
def Cxt.lamC (c : Cxt) (scope : Scope) (k : Nat) (E : XK) : Cxt := { c with sc := scope, k := k, E := E, own := fun _ => false, gd := false, lam := none }
theorem OkX.lamC {X : Cx} (o : OkX c X) {A : Around} {outer : List Env} {s : Shared} {H : Hp} {E : XK} {scope : Scope} {f c' : Addr} {k : Nat} (hr : Room k (A.deeper (LamX.lamEnv X scope s.heap.objs.size f c'))) : OkX (c.lamC scope k E) (LamX.lamCx X A outer s H E scope f c') where
  prog := o.prog
  w := o.w
  K := o.K
  mg := o.mg
  base := o.base
  N := o.N
  sc := rfl
  calm := rfl
  room := hr
  guards := fun z => (by cases z)
  lamb := fun _ _ z => (by cases z)
  nd := o.nd
  fn := fun _ z => (by cases z)
  po := passes_of rfl
  tk := takes_of rfl rfl rfl rfl
def fCaught (fb : F3 D) : F3 D := fun env st => match fb env st with
  | some (.ok _, st') => some (.ok .non, st')
  | some (.er i, st') => some (.ok (.exn i), st')
  | none => none
/-- what is known of the catcher -/
structure CatchOk (g : Gs) (x w : Str) (cls0 : Addr) : Prop where
  ex : ∃ (f : Addr) (fdat : FuncData) (st : Stmt) (er ca ex : Str) (p1 p2 p3 p4 p5 p6 p7 p8 p9 p10 p11 p12 p13 p14 p15 p16 : Pos), L2.Fun g.K x x st f fdat ∧ g.mg x = some (.ref f) ∧ defBody st = catchB w er ca ex p1 p2 p3 p4 p5 p6 p7 p8 p9 p10 p11 p12 p13 p14 p15 p16 ∧
    FnScope [w, er, ca] [w] (defScope st) ∧ (defScope st).names.lookup w = some .local ∧ (defScope st).names.lookup er = some .local ∧ (defScope st).names.lookup ca = some .local ∧ (defScope st).names.lookup ex = some .globalImplicit ∧ g.mg ex = some (.ref cls0) ∧ (ex == ("__debug__" : Str)) = false ∧
    (er == ("__debug__" : Str)) = false ∧ (ca == ("__debug__" : Str)) = false ∧ (er == ("__classdict__" : Str)) = false ∧ (ca == ("__classdict__" : Str)) = false ∧
    (w == ("__debug__" : Str)) = false ∧ (w == ("__classdict__" : Str)) = false ∧ (∀ (kV doc pm : Value) (an : Option Addr) (cdv ct : Value) (us : List Value), us.length = 1 → bindArgs (PySem.W.fnOf x x (defArgs st) (defBody st) (defScope st) .none kV doc pm an cdv ct) ⟨us, []⟩ = pure ([w].zip us))
  all : ∀ i, PySem.W.exmOne g.K (.ref (g.cl i)) (.ref cls0) = some true
theorem simE_caught {x w : Str} {cls0 u P : Addr} {q : Str} {k : Nat} (C : CatchOk c.g x w cls0) (hl : c.lam = some (u, q)) (TB : LamX.TabB c.g.base c.g.mg u P) (hT : (P, q ++ "<lambda>") ∈ c.g.T) (hu : ∀ p ∈ c.g.T, p.1 = P → p.2 = q ++ "<lambda>") (hk : k + 2 ≤ c.k) (hg : glB c.sc x = true)
    (hL : LamX.lamSB c.sc scope = true) (hdef : ∀ env : Env, defaultsOf params env = ([], [])) (hbind : ∀ (q : Str) (cl : List (Str × Addr)) (pm cv ctv : Value), bindArgs (PySem.W.kla_fn "<lambda>" q params body scope cl pm cv ctv) ⟨[], []⟩ = pure []) (hb : ∀ E, SimE (c.lamC scope k E) body fb) :
    SimE c (.Call (.Name x p) [.Lambda params body scope lpos] [] pos) (fCaught fb) := by
  obtain ⟨f, fdat, st, er, ca, ex, p1, p2, p3, p4, p5, p6, p7, p8, p9, p10, p11, p12, p13, p14, p15, p16, Fu, hm, hB, S, l1, l2, l3, l4, hx, d4, d2, d3, c2, c3, d1, c1, hbi⟩ := C.ex
  have bnd_ := Fu.binds (ps := [w]) hbi
  obtain ⟨⟨oc, od, kV, doc, pm, an, cdv, ct, osl, rfl, lk, hcd⟩, kp⟩ := Fu
  refine ⟨LamX.tLam c.g.T (TKeep c.g.K (.ref cls0)) fun E => (hb E).choose, fun X o => ?_, ?_⟩
  · obtain ⟨ec, eq⟩ := o.lamb u q hl
    refine LamX.pe_lamcall (c := u) (P := P) (k := k) (Ng := [w, er, ca]) (a := w) (o.gl hg) (by rw [o.mg]; exact hm) (by rw [o.K]; exact kp) (by rw [o.K]; exact lk) (by rw [o.K]; exact hcd) (by rw [o.K]; exact bnd_) S rfl (.inl l1) ?_
      (by rw [o.base, o.mg]; exact TB) ec (by rw [eq]; exact hT) (by rw [eq]; exact hu) (o.room.mono hk) (by rw [o.sc]; exact LamX.lamS_by hL) (hdef _) hbind (fun A outer s H E f' c' hr => (hb E).choose_spec.1 _ (o.lamC hr)) (glB_nd hg) d1 c1
    rw [hB, ← o.K]
    exact catch_gives (p15 := p15) (p16 := p16) S.nd l1 l2 l3 l4 (by rw [o.mg]; exact hx) d4 d2 d3 c2 c3
  · intro env st0 rr st' e ms σ H rs re Q hq
    refine ⟨rs.tabs, fun H1 eN T1 => ?_⟩
    have fw : Fw ms H ms H1 := ⟨List.prefix_rfl, ⟨fun b o hb' hf => eN b o hb' fun ps z => by rw [z] at hf; exact hf⟩⟩
    have rs1 : Rs c.g ms H1 st0 := ⟨rs.len, rs.nd, fun n o a e1 e2 => by
      have z := rs.at_ n o a e1 e2
      obtain ⟨y, hy, ny, nt, _⟩ := z.some
      exact z.mono fw ((eN a y hy nt).trans hy.symm), T1⟩
    unfold fCaught at e
    split at e
    · rename_i d st1 e1
      cases e
      exact (hb _).choose_spec.2 env st0 _ _ e1 ms σ H1 rs1 (re.mono fw) _ fun ms2 H2 fw2 rs2 b hb' => hq ms2 H2 (fw.trans fw2) rs2 _ .non
    · rename_i i st1 e1
      cases e
      refine (hb _).choose_spec.2 env st0 _ _ e1 ms σ H1 rs1 (re.mono fw) _ fun ms2 H2 fw2 rs2 => ⟨C.all i, rfl, _, rfl, fun a ha => ?_⟩
      obtain ⟨fw3, rs3⟩ := rs2.fresh (o := ExV (c.g.cl i) a) ha
      exact hq ms2 _ ((fw.trans fw2).trans fw3) rs3 _ (.exn upd_same)
    · cases e
end
end S3

set_option maxHeartbeats 4000000
/-! S3L: enumerate of tuples, list(range(n)), len(set(..)), isinstance of a caught error, repr. -/
namespace S3
open PySem PySem.Spec PyProof.Rows L2

/-! ### enumerate of a tuple -/
theorem meets_enum1 {v : Value} {o : Obj} {G : Heap → Prop} (B : PySem.Begins v o G) :
    Meets (Builtin.«enumerate.__new__» ⟨[.type "enumerate", v], []⟩) (fun _ R s => G s.heap ∧
      R (.ok (.ret (.ref (s.heap.push o).objs.size))) { s with heap := (s.heap.push o).push { cls := .type "enumerate", data := .fields #[.none, .bool false, .ref s.heap.objs.size, rawInt 0, .none, .none] } }) :=
  .of_wp fun prog w A R s h => by
    obtain ⟨hp, gs, dr, tk, os⟩ := s
    obtain ⟨hG, h⟩ := h
    have hs := PySem.sub_enumerate
    have it : ∀ {A' : Around} {E : Value → Shared → Prop} {Q : Value → Shared → Prop}, Q (.ref hp.objs.size) ⟨hp.push o, gs, dr, tk, os⟩ → wpAny (model prog w) A' (pyIter v) Q E ⟨hp, gs, dr, tk, os⟩ := fun q => B.iter prog w _ _ ⟨hp, gs, dr, tk, os⟩ _ hG q
    wp_walk using it
    refine wpAny_stack_any fun _ => wpAny_pure ?_
    split
    · rename_i ct _ _ _ _ _
      cases (ct == Value.type "enumerate") <;> (wp_walk using it; exact ⟨_, rfl, h⟩)
    · wp_walk using it
      exact ⟨_, rfl, h⟩
theorem call_enum1 {P : Program} {w : World} {A : Around} {E : Value → Shared → Prop} {s : Shared} {v : Value} {o : Obj} {G : Heap → Prop} {Q : Value → Shared → Prop} (B : PySem.Begins v o G) (hG : G s.heap)
    (h : ∀ h', IsEnum h' (s.heap.objs.size + 1) s.heap.objs.size 0 .none → h'.get? s.heap.objs.size = some o → (∀ b u, s.heap.get? b = some u → h'.get? b = some u) → Q (.ref (s.heap.objs.size + 1)) { s with heap := h' }) : wpAny (model P w) A (call (.type "enumerate") [v]) Q E s := by
  refine callType_new F.called_enumerate (by decide) (F.typeCall_enumerate_1 _) (F.newCall_enumerate_1 _) (fun ob => F.args_object_init_2 ob _) F.entry_enumerate_new (meets_enum1 B) ⟨hG, ?_⟩
  have sz : (s.heap.push o).objs.size = s.heap.objs.size + 1 := Heap.size_push ..
  have en : IsEnum ((s.heap.push o).push { cls := .type "enumerate", data := .fields #[.none, .bool false, .ref s.heap.objs.size, rawInt 0, .none, .none] }) (s.heap.objs.size + 1) s.heap.objs.size 0 .none := by
    rw [← sz]
    exact Heap.get?_push_size _ rfl
  show _ ∧ _
  rw [sz]
  exact ⟨⟨_, en, rfl⟩, h _ en (Heap.get?_push_of_some _ (Heap.get?_push_size _ B.free)) fun b u x => Heap.get?_push_of_some _ (Heap.get?_push_of_some _ x)⟩
/-- the tuple at a, each item with its number in a new pair -/
def IteT (K : PySem.W.Frag) (a : Addr) : It where
  go := fun i H => ∃ (xs : List V) (x : V), SqT K H a xs ∧ xs[i]? = some x
  yld := fun i H v H' => ∃ T x, v = .ref T ∧ H T = none ∧ H' = upd H T (.tup [.int (i : Nat), x]) ∧ ∀ xs, SqT K H a xs → xs[i]? = some x
  stop := fun i H => ∃ xs : List V, SqT K H a xs ∧ xs.length ≤ i
theorem turn_enumT {P : Program} {w : World} {K : PySem.W.Frag} {elts : List Expr} {kk : Nat} {tpos : Pos} (a e it : Addr) :
    Turn P w K (.Tuple elts kk tpos) (IteT K a) [e, it] e (fun i h => (∃ old, IsEnum h e it ((i : Nat) : Int) old) ∧ h.IsTupleIter it a i ∧ e ≠ it) where
  mem := by simp
  obj := fun i h st b hb => by
    obtain ⟨⟨old, he⟩, ⟨o, ho, _, hd⟩, _⟩ := st
    rcases (by simpa using hb : b = e ∨ b = it) with rfl | rfl
    · exact ⟨_, he, fun _ z => nomatch z⟩
    · exact ⟨o, ho, fun _ z => by rw [hd] at z; cases z⟩
  keep := fun i h h' st k => by
    obtain ⟨⟨old, he⟩, hi, ne⟩ := st
    exact ⟨⟨old, k e (by simp) _ he⟩, hi.at fun o q => k it (by simp) o q, ne⟩
  item := by
    intro X hP hw hK hc i pins s σ H E I hf st hg
    subst hP hw hK
    obtain ⟨⟨old, he⟩, hit, ne⟩ := st
    obtain ⟨xs, x, hq, hx⟩ := hg
    obtain ⟨its, rv, p, _⟩ := I.tuple hq
    have hlt : i < its.toArray.size := by
      rw [List.size_toArray, ← rv.length]
      exact (List.getElem?_eq_some_iff.mp hx).1
    have at_ : a ≠ it := fun z => by
      obtain ⟨o, h1, h2, _⟩ := hit
      obtain ⟨u, h3, h4, _⟩ := id p
      rw [z, h1] at h3
      cases h3
      rw [h2] at h4
      simp at h4
    have ae : e ≠ a := fun z => by
      obtain ⟨u, h3, h4, _⟩ := id p
      rw [← z, he] at h3
      cases h3
      simp at h4
    refine wpAny_pyNext_enum_itemD (Draws.tuple (show X.A.in1.handled = none from I.ok.hd hc) it a at_ its.toArray) he ⟨hit, p⟩ hlt ne (by simp [ne, ae]) fun u h1 tk hu ho hst hT hsz hk => ?_
    obtain ⟨u2, hu2, ru⟩ := rv.get hx
    obtain rfl : u = u2 := by
      have z : its[i]? = some u := by simpa using hu
      rw [hu2] at z
      exact (Option.some.inj z).symm
    refine ⟨_, rfl, wpAny_letOwnedTupleGo_enum (s := { s with heap := h1, toks := tk + 1 }) ho fun h2 he2 sb => ?_⟩
    have el : e < s.heap.objs.size := Heap.lt_size he
    have il : it < s.heap.objs.size := by
      obtain ⟨_, z, _⟩ := hit
      exact Heap.lt_size z
    have T2 : h2.get? s.heap.objs.size = some { cls := .type "tuple", data := .seq #[.int i tk, u] } := (sb.2 _ (Nat.ne_of_gt el)).trans hT
    have I1 : Inv X pins σ (upd H s.heap.objs.size (.tup [.int (i : Nat), x])) { s with heap := h2, toks := tk + 1 } :=
      I.turnedNew (ch := [e, it]) (fun b ob hb q => (sb.2 b fun z => hb (by simp [z])).trans (hk b ob (fun z => hb (by simp [z])) (fun z => hb (by simp [z])) q)) hf (Nat.le_refl _) ⟨by show 2 ≤ sizeLine; decide, [.int i tk, u], .cons ⟨_, rfl⟩ (.cons ru .nil), ⟨_, T2, rfl, _, rfl⟩⟩
    refine ⟨.ref s.heap.objs.size, _, I1, rfl, ⟨_, x, rfl, I.hok.fresh (Nat.le_refl _), rfl, fun ys hy => by rw [I.tuple_inj hy hq]; exact hx⟩, ⟨⟨u, ?_⟩, hst.1.at fun o q => (sb.2 it (Ne.symm ne)).trans q, ne⟩, fun b hb => ?_⟩
    · rw [show ((i + 1 : Nat) : Int) = (i : Int) + 1 by omega]
      exact he2
    · have lt : b < s.heap.objs.size := by rcases (by simpa using hb : b = e ∨ b = it) with z | z <;> (rw [z]; assumption)
      rw [upd_ne (Nat.ne_of_lt lt)]
      exact (hf b hb).1
  done := by
    intro X hP hw hK hc i pins s σ H E I hf st hg
    subst hP hw hK
    obtain ⟨⟨old, he⟩, hit, ne⟩ := st
    obtain ⟨xs, hq, hx⟩ := hg
    obtain ⟨its, rv, p, _⟩ := I.tuple hq
    obtain ⟨f0, f1, f2, f3, f4, f5⟩ := hf it (by simp)
    have hT : s.TypeIs (.ref e) "enumerate" := ⟨_, he, rfl⟩
    unfold pyNext
    refine wpAny_bind (wpAny_attempt (wpAny_callSpecial?_slot (name := Str.ofString "__next__") hT F.slot_enumerate_next (wpAny_call_entry F.slot_enumerate_next hT F.entry_enumerate_next ?_ (F.args_enumerate_next_1 _))))
    show wpAny _ _ (field (.ref e) 2 >>= _) _ _ _
    refine wpAny_bind (wpAny_field he rfl (x := .ref it) rfl ?_)
    refine wpAny_bind (PySem.wpAny_nextOf_tuple_end (show X.A.in1.handled = none from I.ok.hd hc) hit p (by simp; rw [← rv.length]; exact hx) fun h' ex eb hx' => ?_)
    obtain ⟨o, ho, hcl⟩ := hx'
    refine wpAny_bind (wpAny_isInstance (T := "StopIteration") (b := true) ⟨o, ho, hcl⟩ isSubtype_stop ?_)
    exact wpAny_pure ⟨rfl, I.turned (t' := s.toks) (fun b o hb q => eb b o hb q) f0 f1 f3 f4 f5⟩
  self := fun A i s Q E st h => by
    obtain ⟨⟨_, he⟩, _⟩ := st
    exact wpAny_pyIter_enum he h
def iEnumT (K : PySem.W.Frag) (ta : TA) : TI := fun σ H R => ta σ H fun vs H1 => ∃ a xs, vs = [.ref a] ∧ SqT K H1 a xs ∧ R (IteT K a) H1
theorem pi_enumT {X : Cx} {e : Expr} {ta : TA} {p pos tpos : Pos} {elts : List Expr} {kk : Nat} (hg : Gl X "enumerate") (hm : X.mg "enumerate" = none) (ha : PA X [e] ta) (hs : starEach [e] X.env = [(false, eval e X.env)]) : PI X (.Tuple elts kk tpos) (.Call (.Name "enumerate" p) [e] [] pos) (iEnumT X.K ta) := by
  refine ⟨fun pins s σ H R I h => ?_⟩
  refine Call_ (ld_blt I hg hm boot_enumerate (PyProof.Rows.callWith_type1 (thn (ha.run pos pins s σ H _ I h) fun us s1 hh => ?_) hs rfl))
  obtain ⟨vs, H1, I1, r1, a, xs, rfl, hq, q⟩ := hh
  cases r1 with
  | cons r rr =>
    cases rr
    cases r
    obtain ⟨its, rv, p', _⟩ := I1.tuple hq
    refine call_enum1 (PySem.begins_tuple a its.toArray) p' fun h' he hit hk => wpAny_pyIter_enum he ?_
    have I2 : Inv X pins σ H1 { s1 with heap := h' } := I1.kept (t' := s1.toks) hk
    refine ⟨s1.heap.objs.size + 1, [s1.heap.objs.size + 1, s1.heap.objs.size], _, _, H1, rfl, I2, turn_enumT a (s1.heap.objs.size + 1) s1.heap.objs.size, ⟨⟨.none, he⟩, ⟨_, hit, rfl, rfl⟩, Nat.succ_ne_self _⟩, fun b hb => ?_, q⟩
    have le : s1.heap.objs.size ≤ b := by rcases (by simpa using hb : b = s1.heap.objs.size + 1 ∨ b = s1.heap.objs.size) with rfl | rfl <;> omega
    exact I1.fpOk le (I1.hok.fresh le)
section
variable {c : Cxt} {a b e : Expr} {es : List Expr} {fa fb : F3 D} {fr : F3 (List D)} {pos p p2 q : Pos}
def srcET (ds : List D) : Src := fun _ i => some (match ds[i]? with
  | some x => some (.tup [.int (i : Nat), x])
  | none => none)
def fOverET (f : F3 (List D)) : F3 Src := bnd f fun ds env st => match ds with
  | [d] => match seqT d with
    | some xs => some (.ok (srcET xs), st)
    | none => none
  | _ => none
theorem simI_enumT {elts : List Expr} {kk : Nat} {tpos : Pos} (hg : glB c.sc "enumerate" = true) (hm : c.g.mg "enumerate" = none) (ha : SimA c [a] fr) (hp : plainE a = true := by rfl) : SimI c (.Tuple elts kk tpos) (.Call (.Name "enumerate" p) [a] [] pos) (fOverET fr) := by
  obtain ⟨t, q, r⟩ := ha
  refine ⟨iEnumT c.g.K t, fun X o => by rw [← o.K]; exact pi_enumT (o.gl hg) (by rw [o.mg]; exact hm) (q X o) (starEach_plain hp), ?_⟩
  intro env st rr st' e ms σ H rs re R hq
  refine r.bind e rs re (fun ds st1 ms1 H1 fw rs1 re1 e1 vs hv => ?_) fun c ms1 H1 er fw rs1 => out_er hq er fw rs1
  split at e1
  · split at e1
    · rename_i d xs ed
      cases e1
      obtain ⟨v, e0, hv1⟩ := hv.one'
      subst e0
      obtain ⟨q, vs, rfl, hp, hvs⟩ := seqT_ok hv1 ed
      refine ⟨q, vs, rfl, hp, hq ms1 H1 fw rs1 _ fun ms2 H2 st2 i fw2 rs2 => ?_⟩
      have hp2 := fw2.le.sqT hp
      unfold srcET
      cases hk : xs[i]? with
      | none => exact ⟨fun z => ⟨vs, hp2, by rw [← hvs.length]; exact List.getElem?_eq_none_iff.mp hk⟩, fun _ z => (by cases z)⟩
      | some x =>
        obtain ⟨w, h1, h2⟩ := hvs.get hk
        refine ⟨fun z => (by cases z), fun d' z => ⟨⟨vs, w, hp2, h1⟩, fun x' H' y => ?_⟩⟩
        obtain ⟨T, x2, rfl, hT, rfl, y2⟩ := y
        have y3 := y2 vs hp2
        rw [h1] at y3
        cases y3
        cases z
        obtain ⟨fw3, rs3⟩ := rs2.fresh (o := .tup [.int (i : Nat), w]) hT
        exact ⟨fw3, rs3, .tup upd_same (.cons (.int _) (.one ((fw2.trans fw3).rl h2)))⟩
    · cases e1
  · cases e1

/-! ### list(range(n)) -/
def oRgL : F1 D D := fun d st => match d with
  | .int j => if 0 ≤ j ∧ j ≤ 16777216 then some (.loc st.length, st ++ [.lst ((List.range j.toNat).map fun i => .int (i : Nat))]) else none
  | _ => none
theorem simE_listRg (hg : glB c.sc "list" = true) (hm : c.g.mg "list" = none) (hg2 : glB c.sc "range" = true) (hm2 : c.g.mg "range" = none) (ha : SimE c a fa) (hp : plainE a = true := by rfl) : SimE c (.Call (.Name "list" p) [.Call (.Name "range" p2) [a] [] q] [] pos) (fU oRgL fa) := by
  obtain ⟨t, pt, r⟩ := ha
  refine ⟨_, fun X o => pe_listRg o.calm (o.gl hg) (by rw [o.mg]; exact hm) (prg_1 (o.gl hg2) (by rw [o.mg]; exact hm2) (pt X o) (starEach_plain hp)) (starEach_plain rfl), ?_⟩
  intro env st rr st' e ms σ H rs re Q hq
  refine r.bind e rs re (fun d st1 ms1 H1 fw rs1 re1 e1 v hv => ?_) fun c ms1 H1 er fw rs1 => out_er hq er fw rs1
  unfold lift oRgL at e1
  split at e1
  · rename_i z st2 hz
    cases e1
    split at hz
    · split at hz
      · rename_i j hj
        cases hz
        cases hv
        refine ⟨_, rfl, .of_le (Int.le_refl 0) hj.2 (by omega) hj.1, fun u hu => ?_⟩
        have el : (rgV 0 j) = ((List.range j.toNat).map fun i => ((i : Nat) : Int)).map V.int := by
          unfold rgV
          simp
        rw [el]
        obtain ⟨fw2, rs2, h2⟩ := rs1.alloc (o := .lst (((List.range j.toNat).map fun i => ((i : Nat) : Int)).map V.int)) (u := .lst ((List.range j.toNat).map fun i => D.int (i : Nat))) hu fun f e => ⟨_, e, by
          have := rlA_ints (g := c.g) (ms := ‹List Addr›) (H := ‹Hp›) ((List.range j.toNat).map fun i => ((i : Nat) : Int))
          simpa [Function.comp_def] using this⟩
        exact hq _ _ (fw.trans fw2) rs2 _ h2
      · cases hz
    · cases hz
  · cases e1

/-! ### len(set(a tuple of ints)) -/
def nubI : List Int → List Int
  | [] => []
  | i :: l => if i ∈ nubI l then nubI l else i :: nubI l
theorem nubI_mem {k : Int} : ∀ {l : List Int}, k ∈ nubI l ↔ k ∈ l
  | [] => Iff.rfl
  | i :: l => by
    unfold nubI
    have ih := nubI_mem (k := k) (l := l)
    split
    · rename_i h
      rw [ih, List.mem_cons]
      exact ⟨.inr, fun z => z.elim (fun e => e ▸ nubI_mem.mp h) id⟩
    · rw [List.mem_cons, List.mem_cons, ih]
theorem nubI_nodup : ∀ l : List Int, (nubI l).Nodup
  | [] => .nil
  | i :: l => by
    unfold nubI
    split
    · exact nubI_nodup l
    · rename_i h
      exact List.nodup_cons.mpr ⟨h, nubI_nodup l⟩
theorem len_le_of {α : Type} [DecidableEq α] : ∀ {l m : List α}, l.Nodup → (∀ x ∈ l, x ∈ m) → l.length ≤ m.length
  | [], _, _, _ => Nat.zero_le _
  | x :: l, m, nd, h => by
    obtain ⟨n1, n2⟩ := List.nodup_cons.mp nd
    have hm := h x List.mem_cons_self
    have e := List.length_erase_of_mem hm
    have pos : 0 < m.length := List.length_pos_of_mem hm
    have q := len_le_of (l := l) (m := m.erase x) n2 fun y hy => (List.mem_erase_of_ne fun z => n1 (by rw [← z]; exact hy)).mpr (h y (List.mem_cons_of_mem _ hy))
    rw [List.length_cons]
    omega
def oLenSet : F1 D D := fun d st => match seqT d with
  | some ds => match intsOf ds with
    | some ns => if ns.length ≤ 4000 then some (.int (nubI ns).length, st) else none
    | none => none
  | none => none
def tLenSetT (K : PySem.W.Frag) (ta : TE) : TE := fun σ H Q => ta σ H fun x H1 => ∃ (l : Addr) (ns : List Int), x = .ref l ∧ SqT K H1 l (ns.map V.int) ∧ ns.length ≤ 4000 ∧ Q (.int ((nubI ns).length : Nat)) H1
theorem pe_lenSetT {X : Cx} {a : Expr} {ta : TE} {p p2 q pos : Pos} (hg : Gl X "len") (hm : X.mg "len" = none) (hg2 : Gl X "set") (hm2 : X.mg "set" = none) (ha : PE X a ta) (hc : X.calm = true) (na : starEach [a] X.env = (false, eval a X.env) :: starEach [] X.env) :
    PE X (.Call (.Name "len" p) [.Call (.Name "set" p2) [a] [] q] [] pos) (tLenSetT X.K ta) := by
  refine ⟨fun pins s σ H Q I h => Call_ (ld_blt I hg hm boot_len (PyProof.Rows.callWith_builtin1 (PyProof.Rows.args_cons (Call_ (ld_blt I hg2 hm2 boot_set (PyProof.Rows.callWith_type1 (PyProof.Rows.args_cons (thn (ha.run pins s σ H _ I h) fun v s1 hv => PyProof.Rows.args_nil ?_) na) na rfl))) rfl) rfl rfl))⟩
  obtain ⟨x, H1, I1, r1, l, ns, rfl, hq, hl, q1⟩ := hv
  cases r1
  obtain ⟨its, rv, pt, _⟩ := I1.tuple hq
  refine call_set_tupI ns (I1.ok.hd hc) (show s1.heap.IsTuple l its.toArray from pt) (ints_of_vals rv) (by unfold scanBound; omega) fun h' tk c SR hcn k => PyProof.Rows.args_nil ?_
  obtain ⟨o, es, ep, t, ho, hex, hdt, _, nd, mem, hb, hf, hn, _, _⟩ := SR
  have ln : es.size = (nubI ns).length := by
    have e1 : (es.toList.map keyOf).length = es.size := by simp
    have m1 : ∀ j, j ∈ es.toList.map keyOf ↔ j ∈ nubI ns := fun j => by rw [← mem j, nubI_mem, decide_eq_true_eq]
    have h1 := len_le_of nd fun j hj => (m1 j).mp hj
    have h2 := len_le_of (nubI_nodup ns) fun j hj => (m1 j).mpr hj
    omega
  have I2 : Inv X pins σ H1 { s1 with heap := h', toks := tk } := I1.kept k
  have hle : (nubI ns).length ≤ ns.length := len_le_of (nubI_nodup ns) fun j hj => nubI_mem.mp hj
  exact call_len_set ho hex hdt hf (by rw [ln]; omega) ⟨.int (nubI ns).length, H1, I2.tok _, ⟨_, by rw [ln]⟩, q1⟩
theorem simE_lenSet (hg : glB c.sc "len" = true) (hm : c.g.mg "len" = none) (hg2 : glB c.sc "set" = true) (hm2 : c.g.mg "set" = none) (ha : SimE c a fa) (hp : plainE a = true := by rfl) : SimE c (.Call (.Name "len" p) [.Call (.Name "set" p2) [a] [] q] [] pos) (fU oLenSet fa) := by
  obtain ⟨t, pt, r⟩ := ha
  refine ⟨tLenSetT c.g.K t, fun X o => by rw [← o.K]; exact pe_lenSetT (o.gl hg) (by rw [o.mg]; exact hm) (o.gl hg2) (by rw [o.mg]; exact hm2) (pt X o) o.calm (starEach_plain hp), ?_⟩
  intro env st rr st' e ms σ H rs re Q hq
  refine r.bind e rs re (fun d st1 ms1 H1 fw rs1 re1 e1 v hv => ?_) fun c ms1 H1 er fw rs1 => out_er hq er fw rs1
  unfold lift oLenSet at e1
  split at e1
  · rename_i z st2 hz
    cases e1
    split at hz
    · split at hz
      · split at hz
        · rename_i ds ed _ ns en hl
          cases hz
          obtain ⟨l, vs, rfl, hp, hvs⟩ := seqT_ok hv ed
          exact ⟨l, ns, rfl, by rw [← intsOf_ok en hvs]; exact hp, hl, hq ms1 H1 fw rs1 _ (.int _)⟩
        · cases hz
      · cases hz
    · cases hz
  · cases e1
end
end S3

set_option maxHeartbeats 4000000
/-! S3M: isinstance of a caught error, repr. -/
namespace S3
open PySem PySem.Spec PyProof.Rows L2
section
variable {c : Cxt} {a b e : Expr} {es : List Expr} {fa fb : F3 D} {fr : F3 (List D)} {pos p p2 q : Pos} {X : Cx}
/-! ### isinstance of a caught error -/
def rIsV (K : PySem.W.Frag) : List V → Hp → VK → Prop := fun xs H Q => ∃ (a C : Addr) (cv : V) (u : Value) (b : Bool), xs = [.ref a, cv] ∧ H a = some (ExV C a) ∧ ExcC K C ∧ (∀ w, RelV cv w → w = u) ∧ PySem.W.kitOne K (.ref C) u = some b ∧ Q (.bl b) H
theorem call_isV : CallR X (.builtin "isinstance") (rIsV X.K) := by
  intro pins s σ H xs us Q I r h
  obtain ⟨a, C, cv, u, b, rfl, ha, ec, hu, hk, q⟩ := h
  obtain ⟨u1, u2, rfl, r1, r2⟩ := vals2 r
  cases r1
  obtain rfl := hu _ r2
  obtain ⟨⟨oe, vs, hg, hz, hd⟩, _, _⟩ := I.hok a _ ha
  obtain ⟨oc, od, dt, sl⟩ := oe
  obtain ⟨z1, z2⟩ := hz
  dsimp only at z1 z2 hd
  subst z1 z2 hd
  exact PySem.W.kia_one (PySem.W.handS_kitx_exc ec.hg ec.hk ec.hs ec.hd ec.ha ec.hn ec.ht ec.hm) I.kIn ⟨hg, rfl, rfl, trivial⟩ hk (fun z => nomatch z) fun tk => ⟨.bl b, H, I.kept (t' := tk) fun _ _ z => z, rfl, q⟩
/-- tab: which class lies under which -/
def oIsV (tab : Nat → Nat → Bool) : F1 (List D) D := fun ds st => match ds with
  | [.exn i, .cl j] => some (.bl (tab i j), st)
  | _ => none
structure TabOk (g : Gs) (tab : Nat → Nat → Bool) : Prop where
  kit : ∀ i j, PySem.W.kitOne g.K (.ref (g.cl i)) (.ref (g.cl j)) = some (tab i j)
  exc : ∀ i, ExcC g.K (g.cl i)
theorem opS_isV {g : Gs} {tab : Nat → Nat → Bool} (T : TabOk g tab) : OpS g (RlA g) (Rl g) (rIsV g.K) (oIsV tab) := by
  intro ds st z st' e ms H vs rs hv Q h
  unfold oIsV at e
  split at e
  · rename_i i j
    cases e
    obtain ⟨v, w, e0, h1, h2⟩ := hv.two'
    subst e0
    cases h1 with
    | exn ha =>
      cases h2
      exact ⟨_, _, _, _, tab i j, rfl, ha, T.exc i, fun w hw => by cases hw; rfl, T.kit i j, q_here rs h (.bl _)⟩
  · cases e
theorem simE_isV {tab : Nat → Nat → Bool} (T : TabOk c.g tab) (hg : glB c.sc "isinstance" = true) (hm : c.g.mg "isinstance" = none) (ha : SimA c (e :: es) fr) (hp : plainA (e :: es) = true := by rfl) : SimE c (.Call (.Name "isinstance" p) (e :: es) [] pos) (fArgs (oIsV tab) fr) :=
  simE_callB (fun X o => by rw [← o.K]; exact call_isV) (opS_isV T) hg hm (by decide +kernel) ha hp
/-- a class's name, as a value -/
theorem simE_cls {x : Str} {i : Nat} (hg : glB c.sc x = true) (hm : c.g.mg x = some (.ref (c.g.cl i))) : SimE c (.Name x pos) (ret3 (.cl i)) := simE_glob (v := .ref (c.g.cl i)) hg hm rfl fun _ _ => .cl i

/-! ### repr of tuples and lists -/
def refD : D → Bool
  | .tup _ => true
  | .tcon _ => true
  | .lcon _ => true
  | .loc _ => true
  | _ => false
def oRepr : F1 (List D) D := fun ds st => match ds with
  | [x] => match dat64 st x with
    | some d => if refD x = true ∧ d.showable = true ∧ d.hasDict = false ∧ d.depth ≤ 60 ∧ d.shown.length ≤ sizeLine then some (.str d.shown, st) else none
    | none => none
  | _ => none
def rRepr (K : PySem.W.Frag) : List V → Hp → VK → Prop := fun xs H Q => ∃ (a : Addr) (d : PyData), xs = [.ref a] ∧ Dp K H (.ref a) d ∧ d.showable = true ∧ d.hasDict = false ∧ d.depth ≤ 60 ∧ d.shown.length ≤ sizeLine ∧ Q (.str d.shown) H
theorem call_repr (hg : X.A.guards = some []) (hu : X.A.units + 64 < cLine) : CallR X (.builtin "repr") (rRepr X.K) := by
  intro pins s σ H xs us Q I r h
  obtain ⟨a, d, rfl, hd, h1, h2, h3, h4, q⟩ := h
  obtain ⟨u, rfl, r1⟩ := vals1 r
  obtain ⟨as, rd⟩ := Dp.reads I d _ _ hd r1
  cases r1
  exact PySem.repr_of_reads' rd h1 (fun z => by rw [h2] at z; cases z) hg (by omega) (fun _ _ z => z) (fun h' u tk k => ⟨.str d.shown, H, I.kept (t' := tk) k, ⟨_, rfl⟩, q⟩) h4
theorem opS_repr {g : Gs} : OpS g (RlA g) (Rl g) (rRepr g.K) oRepr := by
  intro ds st z st' e ms H vs rs hv Q h
  unfold oRepr at e
  split at e
  · split at e
    · rename_i x d ed
      split at e
      · rename_i hc
        obtain ⟨h1, h2, h3, h4, h5⟩ := hc
        cases e
        obtain ⟨v, e0, hv1⟩ := hv.one'
        subst e0
        obtain ⟨dp, _⟩ := dat64_ok rs ed hv1
        have : ∃ a, v = .ref a := by
          cases hv1 <;> first | exact ⟨_, rfl⟩ | cases h1
        obtain ⟨a, rfl⟩ := this
        exact ⟨a, d, rfl, dp, h2, h3, h4, h5, q_here rs h (.str _)⟩
      · cases e
    · cases e
  · cases e
theorem simE_repr (hgd : c.gd = true) (hg : glB c.sc "repr" = true) (hm : c.g.mg "repr" = none) (ha : SimA c (e :: es) fr) (hp : plainA (e :: es) = true := by rfl) : SimE c (.Call (.Name "repr" p) (e :: es) [] pos) (fArgs oRepr fr) :=
  simE_callB (fun X o => by rw [← o.K]; exact call_repr (o.guards hgd) (by have := o.room.un; omega)) opS_repr hg hm (by decide +kernel) ha hp
end
end S3

set_option maxHeartbeats 4000000
/-! S3N: the end of a law row: the law called by the row's own caller. -/
namespace S3
open PySem PySem.Spec PyProof.Rows L2
/-- what the law finds tracked: the empty tables, the script if it is none of the written part -/
def lawH (K : PySem.W.Frag) (Ts : List Addr) (a : Addr) (vs : List Value) (ns : List Int) : Hp := fun b => if b ∈ Ts then some (.tbl #[]) else if K.lookup a = none ∧ b = a then some (.frz { cls := .type "list", data := .seq vs.toArray } (.lst (ns.map V.int))) else none
section
variable {K : PySem.W.Frag} {Ts : List Addr} {a b : Addr} {vs : List Value} {ns : List Int} {o : HO}
theorem lawH_tab (h : b ∈ Ts) : lawH K Ts a vs ns b = some (.tbl #[]) := if_pos h
theorem lawH_scr (h : a ∉ Ts) (hk : K.lookup a = none) : lawH K Ts a vs ns a = some (.frz { cls := .type "list", data := .seq vs.toArray } (.lst (ns.map V.int))) := by
  unfold lawH
  rw [if_neg h, if_pos ⟨hk, rfl⟩]
theorem lawH_cases (h : lawH K Ts a vs ns b = some o) : (b ∈ Ts ∧ o = .tbl #[]) ∨ (b ∉ Ts ∧ K.lookup a = none ∧ b = a ∧ o = .frz { cls := .type "list", data := .seq vs.toArray } (.lst (ns.map V.int))) := by
  unfold lawH at h
  split at h
  · rename_i hb
    cases h
    exact .inl ⟨hb, rfl⟩
  · rename_i hb
    split at h
    · rename_i hc
      cases h
      exact .inr ⟨hb, hc.1, hc.2, rfl⟩
    · cases h
end
/-- what is asked of a law's def, at the state of its call -/
def LawRun (P : Program) (w : World) (K : PySem.W.Frag) (mg : Str → Option Value) (fa : Addr) (cs : List (Addr × Addr)) (ns : List Int) : Prop :=
  ∀ (base : Heap) (s : Shared) (H : Hp) (a : Addr), K.In base → base.Ns mainGlobals mg → (∀ p ∈ cs, LamX.TabB base mg p.1 p.2) → Env0 P w K mg base callerA [] s H → (∀ p ∈ cs, H p.2 = some (.tbl #[])) →
    (∀ H' : Hp, (∀ b o u, H b = some (.frz o u) → H' b = some (.frz o u)) → SqL K H' a (ns.map V.int)) →
    codeAny (model P w) callerA (.call (.ref fa) ⟨[.ref a], []⟩) (CR (L2.CX P w) [] P w H s (fun v _ => v = .bl true) fun _ _ _ => False) s
theorem law_go {P : Program} {w : World} {K : PySem.W.Frag} {mg mb : Str → Option Value} {fa a : Addr} {cs : List (Addr × Addr)} {s : Shared} {vs : List Value} {ns : List Int} (KX : K.In s.heap) (g1 : s.heap.Ns mainGlobals mg) (g2 : s.heap.Ns builtinsNs mb) (g3 : ∀ x : Str, x ≠ "__name__" → mb x = bootBuiltins x)
    (g4 : s.heap.NoLimit) (g5 : s.gens = #[]) (t1 : ∀ p ∈ cs, s.heap.get? p.2 = some { cls := .none, data := .fields #[] }) (t2 : ∀ p ∈ cs, K.lookup p.2 = none) (t3 : ∀ p ∈ cs, PySem.W.CodeHd s.heap p.1 p.2)
    (bm : ∃ (m : Addr) (ob : Obj), mg "__builtins__" = some (.ref m) ∧ m ≠ builtinsNs ∧ s.heap.get? m = some ob ∧ ob.cls = .type "module" ∧ ob.dict = some builtinsNs ∧ ob.data = .plain)
    (scr : s.heap.get? a = some { cls := .type "list", data := .seq vs.toArray }) (hi : IntsAre vs ns) (hl : ns.length ≤ sizeLine) (F : LawRun P w K mg fa cs ns) :
    codeAny (model P w) callerA (.call (.ref fa) ⟨[.ref a], []⟩) (fun r s' => r = .ok (.ret (.bool true)) ∧ OldK s.heap s'.heap ∧ s'.os = s.os ∧ AllBare s'.gens) s := by
  obtain ⟨Ts, hTs⟩ : ∃ Ts : List Addr, Ts = cs.map (·.2) := ⟨_, rfl⟩
  have inT : ∀ p ∈ cs, p.2 ∈ Ts := fun p hp => by
    rw [hTs]
    exact List.mem_map_of_mem hp
  have ofT : ∀ b ∈ Ts, ∃ p ∈ cs, p.2 = b := fun b hb => by
    rw [hTs] at hb
    exact List.mem_map.mp hb
  have tabAt : ∀ b ∈ Ts, s.heap.get? b = some { cls := .none, data := .fields #[] } := fun b hb => by
    obtain ⟨p, hp, rfl⟩ := ofT b hb
    exact t1 p hp
  have aT : a ∉ Ts := fun z => by
    have q := tabAt a z
    rw [scr] at q
    simp at q
  obtain ⟨H, hH⟩ : ∃ H : Hp, H = lawH K Ts a vs ns := ⟨_, rfl⟩
  have hCases : ∀ {b : Addr} {o : HO}, H b = some o → (b ∈ Ts ∧ o = .tbl #[]) ∨ (b ∉ Ts ∧ K.lookup a = none ∧ b = a ∧ o = .frz { cls := .type "list", data := .seq vs.toArray } (.lst (ns.map V.int))) := fun {b o} e => by
    rw [hH] at e
    exact lawH_cases e
  -- what is no list and no table is not tracked
  have free_ : ∀ {b : Addr} {o : Obj}, s.heap.get? b = some o → (∀ x n, o.data ≠ .seq x n) → o.data ≠ .fields #[] → H b = none := fun {b o} e h1 h2 => by
    cases q : H b with
    | none => rfl
    | some u =>
      rcases hCases q with ⟨hb, _⟩ | ⟨_, _, rfl, _⟩
      · rw [tabAt b hb] at e
        cases e
        exact (h2 rfl).elim
      · rw [scr] at e
        cases e
        exact (h1 _ _ rfl).elim
  have under : ∀ {b : Addr} {o : Obj}, s.heap.get? b = some o → (∀ x n, o.data ≠ .seq x n) → o.data ≠ .fields #[] → (hidT s.heap H).get? b = some o := fun e h1 h2 => hidT_get e (free_ e h1 h2)
  have ns_ : ∀ {b : Addr} {m : Str → Option Value}, s.heap.Ns b m → (hidT s.heap H).Ns b m := fun {b m} ⟨o, es, ep, e, d, r⟩ => ⟨o, es, ep, under e (fun x n z => by rw [d] at z; cases z) (fun z => by rw [d] at z; cases z), d, r⟩
  have Kb : K.In (hidT s.heap H) := fun b o e => hidT_get (KX b o e) (by
    cases q : H b with
    | none => rfl
    | some u =>
      rcases hCases q with ⟨hb, _⟩ | ⟨_, hk, rfl, _⟩
      · obtain ⟨p, hp, rfl⟩ := ofT b hb
        rw [t2 p hp] at e
        cases e
      · rw [hk] at e
        cases e)
  have M : L2.Mod K mg (hidT s.heap H) := ⟨Kb, ns_ g1, ⟨mb, ns_ g2, g3⟩, g4.imp fun _ h => ⟨ns_ h.1, h.2⟩⟩
  have TB : ∀ p ∈ cs, LamX.TabB (hidT s.heap H) mg p.1 p.2 := fun p hp => by
    refine ⟨?_, ?_, fun z => ?_⟩
    · obtain ⟨o, us, file, tf, flags, tg, inF, text, tt, e1, r1, r2, r3, rest⟩ := t3 p hp
      exact ⟨o, us, file, tf, flags, tg, inF, text, tt, under e1 (fun x n z => by rw [r2] at z; cases z) (fun z => by rw [r2] at z; cases z; simp at r3), r1, r2, r3, rest⟩
    · obtain ⟨m, ob, b1, b2, b3, b4, b5, b6⟩ := bm
      refine ⟨m, ob, b1, b2, fun q => ?_, fun q => ?_, under b3 (fun x n z => by rw [b6] at z; cases z) (fun z => by rw [b6] at z; cases z), b4, b5, b6⟩
      · obtain ⟨o, es, ep, e, d, _⟩ := g1
        rw [q, e] at b3
        cases b3
        rw [d] at b6
        cases b6
      · rw [q, t1 p hp] at b3
        cases b3
        cases b6
    · obtain ⟨o, es, ep, e, d, _⟩ := g1
      rw [z, t1 p hp] at e
      cases e
      cases d
  have hok : HOk P w H s.heap := fun b u e => by
    rcases hCases e with ⟨hb, rfl⟩ | ⟨_, _, rfl, rfl⟩
    · exact tabAt b hb
    · exact ⟨scr, by rw [List.length_map]; exact hl, vs, _, vals_ints hi, scr⟩
  have E : Env0 P w K mg (hidT s.heap H) callerA [] s H := ⟨rfl, M, fun b o e => of_hidT e, Nat.le_of_eq (hidT_size _ _), trivial, fun b hb => absurd (show b ∈ ([] : List Addr) from hb) (by simp), hok, .of_eq g5⟩
  have hTab : ∀ p ∈ cs, H p.2 = some (.tbl #[]) := fun p hp => by
    rw [hH]
    exact lawH_tab (inT p hp)
  have sq : ∀ H' : Hp, (∀ b o u, H b = some (.frz o u) → H' b = some (.frz o u)) → SqL K H' a (ns.map V.int) := fun H' k => by
    cases hk : K.lookup a with
    | some o =>
      have e := KX a o hk
      rw [scr] at e
      cases e
      exact .inr ⟨_, vs.toArray, _, hk, rfl, rfl, rfl, by rw [List.size_toArray, hi.length]; exact hl, by simpa using vals_ints hi⟩
    | none => exact .inl (.inr ⟨_, k a _ _ (by rw [hH]; exact lawH_scr aT hk)⟩)
  refine codeAny_mono (F _ s H a Kb (ns_ g1) TB E hTab sq) fun r s' h => ?_
  cases r with
  | error e =>
    obtain ⟨_, _, _, _, _, _, _, _, _, _, _, _, z⟩ := h
    exact z.elim
  | ok fl =>
    cases fl with
    | next => exact False.elim h
    | brk => exact False.elim h
    | cont => exact False.elim h
    | ret u =>
      obtain ⟨v, H', os, bare, un, hok', rv, q⟩ := h
      have q : v = .bl true := q
      subst q
      obtain rfl : u = Value.bool true := rv
      have keep : ∀ b o, b ∉ Ts → s.heap.get? b = some o → s'.heap.get? b = some o := fun b o nb e => by
        cases q : H b with
        | none => exact un.keep b o e q (fun z => absurd (show b ∈ ([] : List Addr) from z) (by simp)) (by simp)
        | some u =>
          rcases hCases q with ⟨z, _⟩ | ⟨_, _, rfl, rfl⟩
          · exact absurd z nb
          · obtain ⟨e1, _⟩ := hok _ _ q
            obtain ⟨e2, _⟩ := hok' _ _ (un.frzs _ _ _ q)
            rw [e] at e1
            cases e1
            exact e2
      have more : ∀ p ∈ cs, ∃ m : Array Value, s'.heap.get? p.2 = some { cls := .none, data := .fields m } := fun p hp => by
        obtain ⟨m, z⟩ := un.tbls p.2 #[] (hTab p hp)
        exact ⟨_, hok' p.2 _ z⟩
      refine ⟨rfl, ⟨fun b o e => ?_, fun b o e => ?_⟩, os, bare⟩
      · by_cases hb : b ∈ Ts
        · obtain ⟨p, hp, rfl⟩ := ofT b hb
          obtain ⟨m, hm⟩ := more p hp
          rw [t1 p hp] at e
          cases e
          exact .inr (.inl ⟨((t3 p hp).tab (t1 p hp)).isCodeTable, rfl, #[], m, rfl, by rw [Array.empty_append]; exact hm⟩)
        · exact .inl (keep b o hb e)
      · by_cases hb : b ∈ Ts
        · obtain ⟨p, hp, rfl⟩ := ofT b hb
          exact ⟨_, (more p hp).choose_spec⟩
        · exact ⟨o, keep b o hb e⟩
/-- what is known at the head's heap -/
def LawAt (l : PySem.W.OpenLaw) (w : World) (K : PySem.W.Frag) (n : Nat) (mg : Str → Option Value) (fa : Addr) (h : Heap) : Prop :=
  ∃ cs : List (Addr × Addr), (∀ p ∈ cs, h.get? p.2 = some { cls := .none, data := .fields #[] }) ∧ (∀ p ∈ cs, K.lookup p.2 = none) ∧ (∀ p ∈ cs, PySem.W.CodeHd h p.1 p.2) ∧
    ∀ ns : List Int, ns.length ≤ n → (∀ z ∈ ns, Builtin.Int.intBits z ≤ 1048576) → LawRun l.prog w K mg fa cs ns
theorem walk_go {l : PySem.W.OpenLaw} {n : Nat} {q : Program} {loose : List Str} {XP : (Str → Option Value) → Heap → Prop} {YP : World → Heap → Prop} {d : DefRec} (hn : l.most = some n) (hn2 : n ≤ sizeLine) (hdf : d.params.defaults = [])
    (F : ∀ (w : World) (mg : Str → Option Value) (fa : Addr) (h : Heap), YP w h → h.Ns mainGlobals mg → mg d.name = some (.ref fa) → ∃ K : PySem.W.Frag, K.In h ∧ LawAt l w K n mg fa h) : PySem.W.WalkO q loose XP YP l.row.toRowW d [] (fun f vs => PySem.call f vs) := by
  refine Att.attach_callB hn hdf fun w s0 s1 mg mb fa o pm cd doc a vs ns G Y ho hd hcd hmg hobj hints hlen hbits hg => ?_
  obtain ⟨K, KX, cs, t1, t2, t3, run⟩ := F w mg fa _ Y G.T.g hmg
  exact law_go KX G.T.g G.T.b G.T.builtins G.T.nolimit hg t1 t2 t3 G.T.bmain hobj hints (Nat.le_trans hlen hn2) (run ns hlen hbits)

/-- a law's def by its body -/
theorem law_run {g : Gs} {x : Str} {st : Stmt} {N : List Str} {f : Addr} {fdat : FuncData} {fs : FS} {k : Nat} {u : Addr} {cs : List (Addr × Addr)} {ns : List Int} {p : Str} (F : L2.Fun g.K x x st f fdat) (hcode : ∀ oc od dt osl, g.K.lookup f = some ⟨oc, od, .func dt, osl⟩ → dt.code = .ref u)
    (S : FnScope N [p] (defScope st)) (hr : Room (k + 1) callerA) (hbind : BindsBy x st 1 [p]) (hT : ∀ q ∈ g.T, ∃ c, (c, q.1) ∈ cs)
    (hs : ∀ E base, (∀ q ∈ cs, LamX.TabB base g.mg q.1 q.2) → SimSs { defC { g with base := base } N st k E with gd := true, lam := some (u, x ++ ".<locals>.") } (defBody st) fs)
    (hgood : ∃ st', fdOf N.length fs [.lcon (ns.map D.int)] [] = some (.ok (.bl true), st')) : LawRun g.P g.w g.K g.mg f cs ns := by
  intro base s H a Kb Nb TB E0' hTab hsq
  obtain ⟨⟨oc, od, kV, doc, pm, an, cdv, ct, osl, rfl, lk, hcd⟩, kp⟩ := F
  obtain ⟨st', hst⟩ := hgood
  have ec : cdv = .ref u := hcode _ _ _ _ lk
  refine LamX.run_ofS (N := N) (ps := [p]) (us := [.ref a]) (vs := [.ref a]) lk hcd S hr E0' (.of_eq (hbind _ _ _ _ _ _ [.ref a] rfl)) (.cons rfl .nil) rfl fun hr' => ?_
  obtain ⟨t, pt, rt⟩ := hs (fun _ _ _ => False) base TB
  refine ⟨t, pt _ ⟨rfl, rfl, rfl, rfl, rfl, rfl, rfl, rfl, hr', fun _ => rfl, fun u' q' z => ?_, S.nd, fun _ _ => rfl, passes_of rfl, takes_of rfl rfl rfl rfl⟩, ?_⟩
  · cases z
    exact ⟨ec, rfl⟩
  · refine spOf_body (g := { g with base := base }) (n := 1) (Q := fun v _ => v = .bl true) rt ⟨[.lcon (ns.map D.int)], [], [], _, st', rfl, ⟨rfl, .nil, fun n o b e => by simp at e, fun q hq => ?_⟩, .cons (.lcon hsq (rlA_ints ns)) .nil, hst, fun ms' H' fw rs b hb => ?_⟩
    · obtain ⟨c, hc⟩ := hT q hq
      exact LamX.TabS.nil (hTab _ hc)
    · cases hb
      rfl
end S3

set_option maxHeartbeats 4000000
/-! S4A: what the functions give, read from the left. -/
namespace S3
open PySem PyProof.Rows

/-- f ends well, so that Q -/
def Ok {α : Type} (f : F3 α) (env : Env3) (st : Sto) (Q : α → Sto → Prop) : Prop := ∃ a st', f env st = some (.ok a, st') ∧ Q a st'
def Wo {α β : Type} (o : F1 α β) (a : α) (st : Sto) (Q : β → Sto → Prop) : Prop := ∃ b st', o a st = some (b, st') ∧ Q b st'
def Wd (d : FD) (ds : List D) (st : Sto) (Q : D → Sto → Prop) : Prop := ∃ r st', d ds st = some (.ok r, st') ∧ Q r st'
def Ws (f : FS) (env : Env3) (st : Sto) (Q : Fl → Env3 → Sto → Prop) : Prop := ∃ r env' st', f env st = some (r, env', st') ∧ Q r env' st'
theorem Ok.mono {α : Type} {f : F3 α} {env : Env3} {st : Sto} {Q Q' : α → Sto → Prop} (h : Ok f env st Q) (k : ∀ a st', Q a st' → Q' a st') : Ok f env st Q' := by
  obtain ⟨a, s, e, q⟩ := h
  exact ⟨a, s, e, k a s q⟩
theorem Wd.mono {d : FD} {ds : List D} {st : Sto} {Q Q' : D → Sto → Prop} (h : Wd d ds st Q) (k : ∀ a st', Q a st' → Q' a st') : Wd d ds st Q' := by
  obtain ⟨a, s, e, q⟩ := h
  exact ⟨a, s, e, k a s q⟩
theorem Ws.mono {f : FS} {env : Env3} {st : Sto} {Q Q' : Fl → Env3 → Sto → Prop} (h : Ws f env st Q) (k : ∀ r env' st', Q r env' st' → Q' r env' st') : Ws f env st Q' := by
  obtain ⟨a, v, s, e, q⟩ := h
  exact ⟨a, v, s, e, k a v s q⟩
section
variable {α β : Type} {f : F3 α} {k : α → F3 β} {env : Env3} {st : Sto} {fa fb fc : F3 D} {fr : F3 (List D)}
@[simp] theorem Ok_bnd {Q : β → Sto → Prop} : Ok (bnd f k) env st Q ↔ Ok f env st fun a st1 => Ok (k a) env st1 Q := by
  constructor
  · rintro ⟨b, s, e, q⟩
    unfold bnd at e
    split at e
    · rename_i a s1 e1
      exact ⟨a, s1, e1, b, s, e, q⟩
    · cases e
    · cases e
  · rintro ⟨a, s1, e1, b, s, e, q⟩
    exact ⟨b, s, by unfold bnd; rw [e1]; exact e, q⟩
@[simp] theorem Ok_ret {a : α} {Q : α → Sto → Prop} : Ok (ret3 a) env st Q ↔ Q a st := by
  constructor
  · rintro ⟨b, s, e, q⟩
    cases e
    exact q
  · exact fun q => ⟨a, st, rfl, q⟩
@[simp] theorem Ok_lift {o : F1 α β} {a : α} {Q : β → Sto → Prop} : Ok (lift o a) env st Q ↔ Wo o a st Q := by
  constructor
  · rintro ⟨b, s, e, q⟩
    unfold lift at e
    split at e
    · rename_i c s1 e1
      cases e
      exact ⟨_, _, e1, q⟩
    · cases e
  · rintro ⟨b, s, e, q⟩
    exact ⟨b, s, by unfold lift; rw [e], q⟩
theorem Ok_var {i : Nat} {d : D} {Q : D → Sto → Prop} (h : env[i]? = some (some d)) : Ok (fVar i) env st Q ↔ Q d st := by
  constructor
  · rintro ⟨b, s, e, q⟩
    unfold fVar at e
    rw [h] at e
    cases e
    exact q
  · exact fun q => ⟨d, st, by unfold fVar; rw [h], q⟩
@[simp] theorem Ok_var0 {d : D} {e : Env3} {Q : D → Sto → Prop} : Ok (fVar 0) (some d :: e) st Q ↔ Q d st := Ok_var rfl
@[simp] theorem Ok_varS {i : Nat} {o : Option D} {e : Env3} {Q : D → Sto → Prop} : Ok (fVar (i + 1)) (o :: e) st Q ↔ Ok (fVar i) e st Q := by
  constructor <;> (rintro ⟨b, s, h, q⟩; exact ⟨b, s, h, q⟩)
@[simp] theorem Ok_fU {o : F1 D D} {Q : D → Sto → Prop} : Ok (fU o fa) env st Q ↔ Ok fa env st fun x st1 => Wo o x st1 Q := by simp [fU]
@[simp] theorem Ok_fB {o : F1 (D × D) D} {Q : D → Sto → Prop} : Ok (fB o fa fb) env st Q ↔ Ok fa env st fun x st1 => Ok fb env st1 fun y st2 => Wo o (x, y) st2 Q := by simp [fB]
@[simp] theorem Ok_fArgs {o : F1 (List D) D} {Q : D → Sto → Prop} : Ok (fArgs o fr) env st Q ↔ Ok fr env st fun x st1 => Wo o x st1 Q := by simp [fArgs]
@[simp] theorem Ok_fNil {Q : List D → Sto → Prop} : Ok fNil env st Q ↔ Q [] st := Ok_ret
@[simp] theorem Ok_fCons {Q : List D → Sto → Prop} : Ok (fCons fa fr) env st Q ↔ Ok fa env st fun x st1 => Ok fr env st1 fun xs st2 => Q (x :: xs) st2 := by simp [fCons]
@[simp] theorem Ok_asB {d : D} {Q : Bool → Sto → Prop} : Ok (asB d) env st Q ↔ ∃ b, d = .bl b ∧ Q b st := by
  constructor
  · rintro ⟨b, s, e, q⟩
    unfold asB at e
    split at e
    · cases e
      exact ⟨_, rfl, q⟩
    · cases e
  · rintro ⟨b, rfl, q⟩
    exact ⟨b, st, rfl, q⟩
@[simp] theorem Ok_asI {d : D} {Q : Option Int → Sto → Prop} : Ok (asI d) env st Q ↔ ∃ i, d = .int i ∧ Q (some i) st := by
  constructor
  · rintro ⟨b, s, e, q⟩
    unfold asI at e
    split at e
    · cases e
      exact ⟨_, rfl, q⟩
    · cases e
  · rintro ⟨i, rfl, q⟩
    exact ⟨_, st, rfl, q⟩
@[simp] theorem Ok_fIf {ft : F3 Bool} {Q : D → Sto → Prop} : Ok (fIf ft fa fb) env st Q ↔ Ok ft env st fun b st1 => if b = true then Ok fa env st1 Q else Ok fb env st1 Q := by
  unfold fIf
  rw [Ok_bnd]
  constructor <;> (intro h; refine h.mono fun b s q => ?_; cases b <;> simpa using q)
@[simp] theorem Ok_fAnd {f g : F3 Bool} {Q : Bool → Sto → Prop} : Ok (fAnd f g) env st Q ↔ Ok f env st fun b st1 => if b = true then Ok g env st1 Q else Q false st1 := by
  unfold fAnd
  rw [Ok_bnd]
  constructor <;> (intro h; refine h.mono fun b s q => ?_; cases b <;> simpa using q)
@[simp] theorem Ok_fOr {f g : F3 Bool} {Q : Bool → Sto → Prop} : Ok (fOr f g) env st Q ↔ Ok f env st fun b st1 => if b = true then Q true st1 else Ok g env st1 Q := by
  unfold fOr
  rw [Ok_bnd]
  constructor <;> (intro h; refine h.mono fun b s q => ?_; cases b <;> simpa using q)
@[simp] theorem Ok_fNot {f : F3 Bool} {Q : Bool → Sto → Prop} : Ok (fNot f) env st Q ↔ Ok f env st fun b st1 => Q (!b) st1 := by simp [fNot]
@[simp] theorem Ok_fAndV {Q : D → Sto → Prop} : Ok (fAndV fa fb) env st Q ↔ Ok fa env st fun x st1 => ∃ b, x = .bl b ∧ if b = true then Ok fb env st1 Q else Q (.bl false) st1 := by
  unfold fAndV
  rw [Ok_bnd, Ok_bnd]
  constructor
  · intro h
    refine h.mono fun x s q => ?_
    rw [Ok_asB] at q
    obtain ⟨b, e, q⟩ := q
    exact ⟨b, e, by cases b <;> simpa using q⟩
  · intro h
    refine h.mono fun x s q => ?_
    obtain ⟨b, e, q⟩ := q
    rw [Ok_asB]
    exact ⟨b, e, by cases b <;> simpa using q⟩
@[simp] theorem Ok_fOrV {Q : D → Sto → Prop} : Ok (fOrV fa fb) env st Q ↔ Ok fa env st fun x st1 => ∃ b, x = .bl b ∧ if b = true then Q (.bl true) st1 else Ok fb env st1 Q := by
  unfold fOrV
  rw [Ok_bnd, Ok_bnd]
  constructor
  · intro h
    refine h.mono fun x s q => ?_
    rw [Ok_asB] at q
    obtain ⟨b, e, q⟩ := q
    exact ⟨b, e, by cases b <;> simpa using q⟩
  · intro h
    refine h.mono fun x s q => ?_
    obtain ⟨b, e, q⟩ := q
    rw [Ok_asB]
    exact ⟨b, e, by cases b <;> simpa using q⟩
@[simp] theorem Ok_fNotV {Q : D → Sto → Prop} : Ok (fNotV fa) env st Q ↔ Ok fa env st fun x st1 => ∃ b, x = .bl b ∧ Q (.bl (!b)) st1 := by simp [fNotV]
@[simp] theorem Ok_fChain {o1 o2 : F1 (D × D) D} {Q : D → Sto → Prop} : Ok (fChain o1 o2 fa fb fc) env st Q ↔ Ok fa env st fun x st1 => Ok fb env st1 fun y st2 => Wo o1 (x, y) st2 fun z st3 => ∃ b, z = .bl b ∧ if b = true then Ok fc env st3 (fun w st4 => Wo o2 (y, w) st4 Q) else Q (.bl false) st3 := by
  unfold fChain
  simp only [Ok_bnd, Ok_lift, Ok_asB]
  constructor
  · intro h
    refine h.mono fun x s q => q.mono fun y s2 q2 => ?_
    obtain ⟨z, s3, e, b, eb, q3⟩ := q2
    exact ⟨z, s3, e, b, eb, by cases b <;> simpa using q3⟩
  · intro h
    refine h.mono fun x s q => q.mono fun y s2 q2 => ?_
    obtain ⟨z, s3, e, b, eb, q3⟩ := q2
    exact ⟨z, s3, e, b, eb, by cases b <;> simpa using q3⟩
@[simp] theorem Ok_fCall {n : Nat} {d : FD} {Q : D → Sto → Prop} : Ok (fCall n d fr) env st Q ↔ Ok fr env st fun ds st1 => ds.length = n ∧ Wd d ds st1 Q := by
  unfold fCall
  rw [Ok_bnd]
  constructor
  · intro h
    refine h.mono fun ds s q => ?_
    obtain ⟨a, s2, e, q⟩ := q
    dsimp only at e
    split at e
    · rename_i hl
      exact ⟨hl, a, s2, e, q⟩
    · cases e
  · intro h
    refine h.mono fun ds s q => ?_
    obtain ⟨hl, a, s2, e, q⟩ := q
    exact ⟨a, s2, by dsimp only; rw [if_pos hl]; exact e, q⟩
@[simp] theorem Ok_fCallK {is : List Nat} {d : FD} {Q : D → Sto → Prop} : Ok (fCallK is d fr) env st Q ↔ Ok fr env st fun ds st1 => ds.length = is.length ∧ ∃ es, perm is ds = some es ∧ Wd d es st1 Q := by
  unfold fCallK
  rw [Ok_bnd]
  constructor
  · intro h
    refine h.mono fun ds s q => ?_
    obtain ⟨a, s2, e, q⟩ := q
    dsimp only at e
    split at e
    · rename_i hl
      split at e
      · rename_i es he
        exact ⟨hl, es, he, a, s2, e, q⟩
      · cases e
    · cases e
  · intro h
    refine h.mono fun ds s q => ?_
    obtain ⟨hl, es, he, a, s2, e, q⟩ := q
    exact ⟨a, s2, by dsimp only; rw [if_pos hl, he]; exact e, q⟩
@[simp] theorem Ok_fMeth {o : F1 (D × List D) D} {Q : D → Sto → Prop} : Ok (fMeth o fa fr) env st Q ↔ Ok fa env st fun x st1 => (seqL st1 x).isSome = true ∧ Ok fr env st1 fun ys st2 => Wo o (x, ys) st2 Q := by
  unfold fMeth
  rw [Ok_bnd]
  constructor
  · intro h
    refine h.mono fun x s q => ?_
    obtain ⟨a, s2, e, q⟩ := q
    dsimp only at e
    split at e
    · rename_i z hz
      refine ⟨by rw [hz]; rfl, ?_⟩
      have := Ok_bnd.mp (⟨a, s2, e, q⟩ : Ok (bnd fr fun ys => lift o (x, ys)) env s Q)
      simpa using this
    · cases e
  · intro h
    refine h.mono fun x s q => ?_
    obtain ⟨hs, q⟩ := q
    obtain ⟨z, hz⟩ := Option.isSome_iff_exists.mp hs
    have : Ok (bnd fr fun ys => lift o (x, ys)) env s Q := by simpa using q
    obtain ⟨a, s2, e, q⟩ := this
    exact ⟨a, s2, by dsimp only; rw [hz]; exact e, q⟩
@[simp] theorem Ok_fSl {fl fh : F3 (Option Int)} {Q : D → Sto → Prop} : Ok (fSl fa fl fh) env st Q ↔ Ok fa env st fun x st1 => Ok fl env st1 fun l st2 => Ok fh env st2 fun h st3 => Wo oSl (x, l, h) st3 Q := by simp [fSl]
@[simp] theorem Ok_fDget1 {Q : D → Sto → Prop} : Ok (fDget1 fa fb) env st Q ↔ Ok fa env st fun x st1 => isD3 st1 x = true ∧ Ok fb env st1 fun y st2 => Wo oDget1 (x, y) st2 Q := by
  unfold fDget1
  rw [Ok_bnd]
  constructor
  · intro h
    refine h.mono fun x s q => ?_
    obtain ⟨a, s2, e, q⟩ := q
    dsimp only at e
    split at e
    · rename_i hz
      refine ⟨hz, ?_⟩
      have := Ok_bnd.mp (⟨a, s2, e, q⟩ : Ok (bnd fb fun y => lift oDget1 (x, y)) env s Q)
      simpa using this
    · cases e
  · intro h
    refine h.mono fun x s q => ?_
    obtain ⟨hs, q⟩ := q
    have : Ok (bnd fb fun y => lift oDget1 (x, y)) env s Q := by simpa using q
    obtain ⟨a, s2, e, q⟩ := this
    exact ⟨a, s2, by dsimp only; rw [if_pos hs]; exact e, q⟩
@[simp] theorem Ok_fPairNil {Q : List (D × D) → Sto → Prop} : Ok fPairNil env st Q ↔ Q [] st := Ok_ret
@[simp] theorem Ok_fPair {fp : F3 (List (D × D))} {Q : List (D × D) → Sto → Prop} : Ok (fPair fa fb fp) env st Q ↔ Ok fa env st fun x st1 => Ok fb env st1 fun y st2 => Ok fp env st2 fun r st3 => Q ((x, y) :: r) st3 := by simp [fPair]
@[simp] theorem Ok_fDisp {fp : F3 (List (D × D))} {Q : D → Sto → Prop} : Ok (fDisp fp) env st Q ↔ Ok fp env (st ++ [.dK []]) fun ps st1 => st1[st.length]? = some (.dK []) ∧ ∃ kvs, keysP ps = some kvs ∧ kvs.length ≤ 15 ∧ Q (.loc st.length) (st1.set st.length (.dK (mergeG [] kvs))) := by
  constructor
  · rintro ⟨a, s, e, q⟩
    unfold fDisp at e
    split at e
    · rename_i ps s1 e1
      refine ⟨ps, s1, e1, ?_⟩
      split at e
      · rename_i e2
        split at e
        · rename_i kvs e3
          split at e
          · rename_i hl
            cases e
            exact ⟨e2, kvs, e3, hl, q⟩
          · cases e
        · cases e
      · cases e
    · cases e
  · rintro ⟨ps, s1, e1, e2, kvs, e3, hl, q⟩
    refine ⟨_, _, ?_, q⟩
    unfold fDisp
    rw [e1]
    dsimp only
    rw [e2]
    dsimp only
    rw [e3]
    dsimp only
    rw [if_pos hl]
@[simp] theorem Ok_fNewK {Q : D → Sto → Prop} : Ok fNewK env st Q ↔ Q (.loc st.length) (st ++ [.dK []]) := by
  constructor
  · rintro ⟨a, s, e, q⟩
    cases e
    exact q
  · exact fun q => ⟨_, _, rfl, q⟩
@[simp] theorem Ok_fNewT {Q : D → Sto → Prop} : Ok fNewT env st Q ↔ Q (.loc st.length) (st ++ [.dT []]) := by
  constructor
  · rintro ⟨a, s, e, q⟩
    cases e
    exact q
  · exact fun q => ⟨_, _, rfl, q⟩

/-! ### statements -/
variable {f1 f2 : FS} {Q : Fl → Env3 → Sto → Prop}
/-- behind a statement: on, or out -/
def thenS (g : FS) (Q : Fl → Env3 → Sto → Prop) : Fl → Env3 → Sto → Prop := fun r env st => match r with
  | .nx => Ws g env st Q
  | r => Q r env st
@[simp] theorem thenS_nx {g : FS} : thenS g Q .nx env st ↔ Ws g env st Q := Iff.rfl
@[simp] theorem thenS_rt {g : FS} {d : D} : thenS g Q (.rt d) env st ↔ Q (.rt d) env st := Iff.rfl
@[simp] theorem thenS_bk {g : FS} : thenS g Q .bk env st ↔ Q .bk env st := Iff.rfl
@[simp] theorem thenS_ct {g : FS} : thenS g Q .ct env st ↔ Q .ct env st := Iff.rfl
@[simp] theorem thenS_er {g : FS} {c : Nat} : thenS g Q (.er c) env st ↔ Q (.er c) env st := Iff.rfl
@[simp] theorem Ws_seq : Ws (fSeq f1 f2) env st Q ↔ Ws f1 env st (thenS f2 Q) := by
  constructor
  · rintro ⟨r, v, s, e, q⟩
    unfold fSeq at e
    split at e
    · rename_i v1 s1 e1
      exact ⟨_, v1, s1, e1, r, v, s, e, q⟩
    · rename_i hne
      refine ⟨r, v, s, e, ?_⟩
      cases r <;> first | exact q | exact absurd e (hne v s)
  · rintro ⟨r, v, s, e, q⟩
    cases r with
    | nx =>
      obtain ⟨r2, v2, s2, e2, q2⟩ := q
      exact ⟨r2, v2, s2, by unfold fSeq; rw [e]; exact e2, q2⟩
    | rt d => exact ⟨_, v, s, by unfold fSeq; rw [e], q⟩
    | bk => exact ⟨_, v, s, by unfold fSeq; rw [e], q⟩
    | ct => exact ⟨_, v, s, by unfold fSeq; rw [e], q⟩
    | er c => exact ⟨_, v, s, by unfold fSeq; rw [e], q⟩
@[simp] theorem Ws_nop : Ws fNop env st Q ↔ Q .nx env st := by
  constructor
  · rintro ⟨r, v, s, e, q⟩
    cases e
    exact q
  · exact fun q => ⟨_, _, _, rfl, q⟩
@[simp] theorem Ws_now {r : Fl} : Ws (fun env st => some (r, env, st)) env st Q ↔ Q r env st := by
  constructor
  · rintro ⟨r, v, s, e, q⟩
    cases e
    exact q
  · exact fun q => ⟨_, _, _, rfl, q⟩
theorem Ws_eff {k : α → FS} (h : Ok f env st fun a st1 => Ws (k a) env st1 Q) : Ws (eff f k) env st Q := by
  obtain ⟨a, s1, e1, r, v, s, e, q⟩ := h
  exact ⟨r, v, s, by unfold eff; rw [e1]; exact e, q⟩
theorem Ws_ret (h : Ok fa env st fun d st1 => Q (.rt d) env st1) : Ws (fRet fa) env st Q := Ws_eff (h.mono fun d s q => Ws_now.mpr q)
theorem Ws_drop (h : Ok fa env st fun _ st1 => Q .nx env st1) : Ws (fDrop fa) env st Q := Ws_eff (h.mono fun d s q => Ws_now.mpr q)
theorem Ws_if {ft : F3 Bool} (h : Ok ft env st fun b st1 => if b = true then Ws f1 env st1 Q else Ws f2 env st1 Q) : Ws (fIfS ft f1 f2) env st Q := Ws_eff (h.mono fun b s q => by cases b <;> simpa using q)
theorem Ws_asg {gt : G3} (h : Ok fa env st fun d st1 => ∃ env2 st2, gt d env st1 = some (env2, st2) ∧ Q .nx env2 st2) : Ws (fAsg fa gt) env st Q := Ws_eff (h.mono fun d s q => by
  obtain ⟨v, s2, e, q⟩ := q
  exact ⟨.nx, v, s2, by dsimp only; rw [e], q⟩)
theorem Ws_set {i : Nat} (h : Ok fa env st fun d st1 => Q .nx (env.set i (some d)) st1) : Ws (fAsg fa (gVar i)) env st Q := Ws_asg (h.mono fun d s q => ⟨_, _, rfl, q⟩)
theorem Ws_par {is : List Nat} (h : Ok fr env st fun ds st1 => ds.length = is.length ∧ Q .nx ((is.zip ds).foldl (fun e p => e.set p.1 (some p.2)) env) st1) : Ws (fPar is fr) env st Q := Ws_eff (h.mono fun ds s q => ⟨_, _, _, by dsimp only; rw [if_pos q.1], q.2⟩)
theorem Ws_aug {o : Int → Int → Int} {i : Nat} {k : Int} (he : env[i]? = some (some (.int k))) (h : Ok fa env st fun d st1 => ∃ j, d = .int j ∧ Q .nx (env.set i (some (.int (o k j)))) st1) : Ws (fAug o i fa) env st Q := by
  have : Ws (eff fa (fun d env st => match d with
    | .int j => some (.nx, env.set i (some (.int (o k j))), st)
    | _ => none)) env st Q := Ws_eff (h.mono fun d s q => by
    obtain ⟨j, rfl, q⟩ := q
    exact ⟨_, _, _, rfl, q⟩)
  obtain ⟨r, v, s, e, q⟩ := this
  exact ⟨r, v, s, by unfold fAug; rw [he]; exact e, q⟩
theorem Ws_sub {fo fi : F3 D} (h : Ok fa env st fun d st1 => Ok fo env st1 fun o st2 => Ok fi env st2 fun i st3 => ∃ st4, oSet st3 o i d = some st4 ∧ Q .nx env st4) : Ws (fAsg fa (gSub3 fo fi)) env st Q := Ws_asg (h.mono fun d s q => by
  obtain ⟨o, s1, e1, i, s2, e2, s3, e3, q⟩ := q
  exact ⟨env, s3, by unfold gSub3; rw [e1]; dsimp only; rw [e2]; dsimp only; rw [e3], q⟩)
theorem Ws_augS {o : Int → Int → Int} {fo fi : F3 D} (h : Ok fo env st fun x st1 => Ok fi env st1 fun y st2 => ∃ i ds k, y = .int i ∧ 0 ≤ i ∧ i < 2 ^ 63 ∧ seqL st2 x = some ds ∧ ds[i.toNat]? = some (.int k) ∧ Ok fa env st2 fun d st3 => ∃ j st4, d = .int j ∧ oSet st3 x y (.int (o k j)) = some st4 ∧ Q .nx env st4) : Ws (fAugS o fo fi fa) env st Q := by
  refine Ws_eff (h.mono fun x s q => Ws_eff (q.mono fun y s2 q2 => ?_))
  obtain ⟨i, ds, k, rfl, h0, h1, e1, e2, q3⟩ := q2
  obtain ⟨d, s3, e3, j, s4, rfl, e4, q⟩ := q3
  refine ⟨.nx, env, s4, ?_, q⟩
  dsimp only
  rw [if_pos ⟨h0, h1⟩, e1]
  dsimp only
  rw [e2]
  dsimp only
  unfold eff
  rw [e3]
  dsimp only
  rw [e4]

/-! ### loops -/
theorem loopF_ok {src : Src} {gt : G3} {fb : FS} (m : Nat) (Inv : Nat → Env3 → Sto → Prop)
    (hstep : ∀ i env st, i < m → Inv i env st → ∃ d env1 st1, src st i = some (some d) ∧ gt d env st = some (env1, st1) ∧ Ws fb env1 st1 fun r env2 st2 => match r with
      | .nx => Inv (i + 1) env2 st2
      | .ct => Inv (i + 1) env2 st2
      | .bk => Q .nx env2 st2
      | r => Q r env2 st2)
    (hend : ∀ env st, Inv m env st → src st m = some none ∧ Q .nx env st) : ∀ (n i : Nat) (env : Env3) (st : Sto), i ≤ m → m - i < n → Inv i env st → Ws (loopF src gt fb n i) env st Q
  | 0, i, env, st, _, h, _ => by omega
  | n + 1, i, env, st, hi, hn, I => by
    by_cases e : i = m
    · subst e
      obtain ⟨e1, q⟩ := hend env st I
      exact ⟨_, _, _, by unfold loopF; rw [e1], q⟩
    · have hlt : i < m := by omega
      obtain ⟨d, env1, st1, e1, e2, r, env2, st2, e3, q⟩ := hstep i env st hlt I
      cases r with
      | nx =>
        obtain ⟨r, v, s, e4, q4⟩ := loopF_ok m Inv hstep hend n (i + 1) env2 st2 (by omega) (by omega) q
        exact ⟨r, v, s, by unfold loopF; rw [e1]; dsimp only; rw [e2]; dsimp only; rw [e3]; exact e4, q4⟩
      | ct =>
        obtain ⟨r, v, s, e4, q4⟩ := loopF_ok m Inv hstep hend n (i + 1) env2 st2 (by omega) (by omega) q
        exact ⟨r, v, s, by unfold loopF; rw [e1]; dsimp only; rw [e2]; dsimp only; rw [e3]; exact e4, q4⟩
      | bk => exact ⟨_, _, _, by unfold loopF; rw [e1]; dsimp only; rw [e2]; dsimp only; rw [e3], q⟩
      | rt d => exact ⟨_, _, _, by unfold loopF; rw [e1]; dsimp only; rw [e2]; dsimp only; rw [e3], q⟩
      | er c => exact ⟨_, _, _, by unfold loopF; rw [e1]; dsimp only; rw [e2]; dsimp only; rw [e3], q⟩
/-- for: m turns -/
theorem Ws_for {n : Nat} {fi : F3 Src} {gt : G3} {fb : FS} (h : Ok fi env st fun src st0 => ∃ (m : Nat) (Inv : Nat → Env3 → Sto → Prop), m < n ∧ Inv 0 env st0 ∧ (∀ i env st, i < m → Inv i env st → ∃ d env1 st1, src st i = some (some d) ∧ gt d env st = some (env1, st1) ∧ Ws fb env1 st1 fun r env2 st2 => match r with
      | .nx => Inv (i + 1) env2 st2
      | .ct => Inv (i + 1) env2 st2
      | .bk => Q .nx env2 st2
      | r => Q r env2 st2) ∧ ∀ env st, Inv m env st → src st m = some none ∧ Q .nx env st) : Ws (fFor n fi gt fb) env st Q :=
  Ws_eff (h.mono fun src s q => by
    obtain ⟨m, Inv, hn, h0, h1, h2⟩ := q
    exact loopF_ok m Inv h1 h2 n 0 env s (Nat.zero_le _) (by omega) h0)
/-- while: by a measure -/
theorem Ws_while {fc : F3 Bool} {fb : FS} (Inv : Nat → Env3 → Sto → Prop)
    (hstep : ∀ k env st, Inv k env st → Ok fc env st fun b st1 => if b = true then Ws fb env st1 (fun r env2 st2 => match r with
      | .nx => ∃ j, j < k ∧ Inv j env2 st2
      | .ct => ∃ j, j < k ∧ Inv j env2 st2
      | .bk => Q .nx env2 st2
      | r => Q r env2 st2) else Q .nx env st1) : ∀ (n k : Nat) (env : Env3) (st : Sto), k < n → Inv k env st → Ws (fWhile fc fb n) env st Q
  | 0, k, env, st, h, _ => by omega
  | n + 1, k, env, st, h, I => by
    obtain ⟨b, s1, e1, q⟩ := hstep k env st I
    cases b with
    | false => exact ⟨_, _, _, by unfold fWhile; rw [e1], by simpa using q⟩
    | true =>
      simp only [if_true] at q
      obtain ⟨r, v2, s2, e2, q⟩ := q
      cases r with
      | nx =>
        obtain ⟨j, hj, q⟩ := q
        obtain ⟨r, v, s, e4, q4⟩ := Ws_while Inv hstep n j v2 s2 (by omega) q
        exact ⟨r, v, s, by unfold fWhile; rw [e1]; dsimp only; rw [e2]; exact e4, q4⟩
      | ct =>
        obtain ⟨j, hj, q⟩ := q
        obtain ⟨r, v, s, e4, q4⟩ := Ws_while Inv hstep n j v2 s2 (by omega) q
        exact ⟨r, v, s, by unfold fWhile; rw [e1]; dsimp only; rw [e2]; exact e4, q4⟩
      | bk => exact ⟨_, _, _, by unfold fWhile; rw [e1]; dsimp only; rw [e2], q⟩
      | rt d => exact ⟨_, _, _, by unfold fWhile; rw [e1]; dsimp only; rw [e2], q⟩
      | er c => exact ⟨_, _, _, by unfold fWhile; rw [e1]; dsimp only; rw [e2], q⟩

/-! ### comprehensions -/
theorem loopC_ok {src : Src} {gt : G3} {ft : F3 Bool} {fe : F3 D} {env0 : Env3} {D0 : Nat} {R : Sto → Prop} (m : Nat) (Inv : Nat → List D → Sto → Prop)
    (hstep : ∀ i acc st, i < m → Inv i acc st → st[D0]? = some (.lst acc) → ∃ d env1 st1, src st i = some (some d) ∧ gt d env0 st = some (env1, st1) ∧ Ok ft env1 st1 fun b st2 => if b = true then Ok fe env1 st2 (fun y st3 => st3[D0]? = some (.lst acc) ∧ acc.length < sizeLine ∧ Inv (i + 1) (acc ++ [y]) (st3.set D0 (.lst (acc ++ [y])))) else st2[D0]? = some (.lst acc) ∧ Inv (i + 1) acc st2)
    (hend : ∀ acc st, Inv m acc st → st[D0]? = some (.lst acc) → src st m = some none ∧ R st) : ∀ (n i : Nat) (acc : List D) (st : Sto), i ≤ m → m - i < n → Inv i acc st → st[D0]? = some (.lst acc) → ∃ st', loopC src gt ft fe env0 D0 n i st = some st' ∧ R st'
  | 0, i, acc, st, _, h, _, _ => by omega
  | n + 1, i, acc, st, hi, hn, I, hD => by
    by_cases e : i = m
    · subst e
      obtain ⟨e1, q⟩ := hend acc st I hD
      exact ⟨st, by unfold loopC; rw [e1], q⟩
    · have hlt : i < m := by omega
      obtain ⟨d, env1, st1, e1, e2, b, st2, e3, q⟩ := hstep i acc st hlt I hD
      cases b with
      | false =>
        simp only [Bool.false_eq_true, if_false] at q
        obtain ⟨s, e4, q4⟩ := loopC_ok m Inv hstep hend n (i + 1) acc st2 (by omega) (by omega) q.2 q.1
        exact ⟨s, by unfold loopC; rw [e1]; dsimp only; rw [e2]; dsimp only; rw [e3]; exact e4, q4⟩
      | true =>
        simp only [if_true] at q
        obtain ⟨y, st3, e4, q1, q2, q3⟩ := q
        have hl : D0 < st3.length := (List.getElem?_eq_some_iff.mp q1).1
        obtain ⟨s, e5, q5⟩ := loopC_ok m Inv hstep hend n (i + 1) (acc ++ [y]) (st3.set D0 (.lst (acc ++ [y]))) (by omega) (by omega) q3 (List.getElem?_set_self hl)
        exact ⟨s, by unfold loopC; rw [e1]; dsimp only; rw [e2]; dsimp only; rw [e3]; dsimp only; rw [e4]; dsimp only; rw [q1]; dsimp only; rw [if_pos q2]; exact e5, q5⟩
theorem Ok_lc {n : Nat} {vs : List Nat} {fi : F3 Src} {gt : G3} {ft : F3 Bool} {fe : F3 D} {Q : D → Sto → Prop}
    (h : Ok fi env st fun src st0 => ∃ (m : Nat) (Inv : Nat → List D → Sto → Prop), m < n ∧ Inv 0 [] (st0 ++ [.lst []]) ∧
      (∀ i acc st, i < m → Inv i acc st → st[st0.length]? = some (.lst acc) → ∃ d env1 st1, src st i = some (some d) ∧ gt d (wipeE env vs) st = some (env1, st1) ∧ Ok ft env1 st1 fun b st2 => if b = true then Ok fe env1 st2 (fun y st3 => st3[st0.length]? = some (.lst acc) ∧ acc.length < sizeLine ∧ Inv (i + 1) (acc ++ [y]) (st3.set st0.length (.lst (acc ++ [y])))) else st2[st0.length]? = some (.lst acc) ∧ Inv (i + 1) acc st2) ∧
      ∀ acc st, Inv m acc st → st[st0.length]? = some (.lst acc) → src st m = some none ∧ Q (.loc st0.length) st) : Ok (fLc n vs fi gt ft fe) env st Q := by
  unfold fLc
  rw [Ok_bnd]
  refine h.mono fun src st0 q => ?_
  obtain ⟨m, Inv, hn, h0, h1, h2⟩ := q
  obtain ⟨s, e, q⟩ := loopC_ok (R := fun s => Q (.loc st0.length) s) m Inv h1 h2 n 0 [] _ (Nat.zero_le _) (by omega) h0 (by simp)
  exact ⟨_, s, by dsimp only; rw [e], q⟩
/-- a def's call, by its body -/
theorem Wd_of {n : Nat} {fs : FS} {ds : List D} {Q : D → Sto → Prop} (h : Ws fs (ds.map some ++ List.replicate (n - ds.length) none) st fun r _ st' => match r with
    | .nx => Q .non st'
    | .rt d => Q d st'
    | _ => False) : Wd (fdOf n fs) ds st Q := by
  obtain ⟨r, v, s, e, q⟩ := h
  cases r with
  | nx => exact ⟨_, s, by unfold fdOf; rw [e], q⟩
  | rt d => exact ⟨_, s, by unfold fdOf; rw [e], q⟩
  | bk => exact q.elim
  | ct => exact q.elim
  | er c => exact q.elim
end
end S3

set_option maxHeartbeats 4000000
/-! S4B: the laws' draws. -/
namespace S3
open PySem PyProof.Rows L2
abbrev loopN : Nat := 1000000
def fr_begun : FS := (fSeq (fAsg (fLc loopN [2] (fOverL (fVar 0)) (gVar 2) (bnd (fB oGe (fArgs oAbs (fCons (fVar 2) fNil)) (fB oPow (ret3 (.int 10)) (ret3 (.int 18)))) asB) (fB oSub (fArgs oAbs (fCons (fVar 2) fNil)) (fB oPow (ret3 (.int 10)) (ret3 (.int 18))))) (gVar 1))
    (fRet (fDisp (fPair (ret3 (.str "wide")) (fVar 1) (fPair (ret3 (.str "cells")) (fLc loopN [2] (fOverL (fVar 0)) (gVar 2) (ret3 true) (fB oMod (fArgs oInt1 (fCons (fArgs oAbs (fCons (fVar 2) fNil)) fNil)) (ret3 (.int 2147483629)))) (fPair (ret3 (.str "rest")) (ret3 (.int 0)) (fPair (ret3 (.str "turn")) (ret3 (.int 0)) fPairNil)))))))
def dr_begun : FD := fdOf 3 fr_begun
def fr_mixed : FS := (fSeq (fPar [1, 2] (fCons (fB oAdd (fB oDget (fVar 0) (ret3 (.str "turn"))) (ret3 (.int 1))) (fCons (ret3 (.int 0)) fNil)))
    (fSeq (fAsg (fVar 1) (gSub3 (fVar 0) (ret3 (.str "turn"))))
    (fSeq (fFor loopN (fOverL (fArgs oLst (fCons (ret3 (.int 2147483647)) (fCons (ret3 (.int 2147483629)) (fCons (ret3 (.int 2147483587)) (fCons (ret3 (.int 2147483579)) fNil)))))) (gVar 3)
    (fSeq (fAsg (fB oAdd (fB oMul (ret3 (.int 48271)) (fVar 1)) (fB oDiv (fVar 3) (ret3 (.int 37)))) (gVar 4))
    (fSeq (fFor loopN (fOverL (fB oDget (fVar 0) (ret3 (.str "cells")))) (gVar 5)
    (fAsg (fB oMod (fArgs oInt1 (fCons (fB oAdd (fB oAdd (fB oMul (fVar 4) (ret3 (.int 69621))) (fVar 5)) (fVar 1)) fNil)) (fVar 3)) (gVar 4)))
    (fAsg (fB oAdd (fB oMul (fVar 2) (ret3 (.int 2147483647))) (fB oMod (fArgs oInt1 (fCons (fB oPow (fVar 4) (ret3 (.int 5))) fNil)) (fVar 3))) (gVar 2)))))
    (fRet (fVar 2)))))
def dr_mixed : FD := fdOf 6 fr_mixed
def fr_take : FS := (fSeq (fIfS (bnd (fB oEq (fB oDget (fVar 0) (ret3 (.str "rest"))) (ret3 (.int 0))) asB)
    (fAsg (fIf (bnd (fB oNe (fB oDget (fVar 0) (ret3 (.str "wide"))) (fArgs oLst fNil)) asB) (fMeth oPopAt (fB oDget (fVar 0) (ret3 (.str "wide"))) (fCons (ret3 (.int 0)) fNil)) (fCall 1 dr_mixed (fCons (fVar 0) fNil))) (gSub3 (fVar 0) (ret3 (.str "rest"))))
    fNop)
    (fSeq (fAsg (fB oMod (fArgs oInt1 (fCons (fB oDget (fVar 0) (ret3 (.str "rest"))) fNil)) (fVar 1)) (gVar 2))
    (fSeq (fAsg (fB oDiv (fB oDget (fVar 0) (ret3 (.str "rest"))) (fVar 1)) (gSub3 (fVar 0) (ret3 (.str "rest"))))
    (fRet (fVar 2)))))
def dr_take : FD := fdOf 3 fr_take
def fr_pick : FS := (fRet (fB oIx (fVar 1) (fCall 2 dr_take (fCons (fVar 0) (fCons (fArgs oLen (fCons (fVar 1) fNil)) fNil)))))
def dr_pick : FD := fdOf 2 fr_pick
def fr_shuffled : FS := (fSeq (fPar [2, 3] (fCons (fArgs oList (fCons (fVar 1) fNil)) (fCons (fArgs oLst fNil) fNil)))
    (fSeq (fWhile (bnd (fB oNe (fVar 2) (fArgs oLst fNil)) asB)
    (fDrop (fMeth oApp (fVar 3) (fCons (fMeth oPopAt (fVar 2) (fCons (fCall 2 dr_take (fCons (fVar 0) (fCons (fArgs oLen (fCons (fVar 2) fNil)) fNil))) fNil)) fNil))) loopN)
    (fRet (fVar 3))))
def dr_shuffled : FD := fdOf 4 fr_shuffled

/-! ### the store -/
/-- all but p and w stays -/
structure Frm (p w : Nat) (st st' : Sto) : Prop where
  len : st.length ≤ st'.length
  at_ : ∀ n, n < st.length → n ≠ p → n ≠ w → st'[n]? = st[n]?
theorem Frm.refl {p w : Nat} (st : Sto) : Frm p w st st := ⟨Nat.le_refl _, fun _ _ _ _ => rfl⟩
theorem Frm.trans {p w : Nat} {a b c : Sto} (h : Frm p w a b) (k : Frm p w b c) : Frm p w a c := ⟨Nat.le_trans h.len k.len, fun n hn h1 h2 => (k.at_ n (Nat.lt_of_lt_of_le hn h.len) h1 h2).trans (h.at_ n hn h1 h2)⟩
theorem Frm.app {p w : Nat} {st : Sto} (l : Sto) : Frm p w st (st ++ l) := ⟨by simp, fun n hn _ _ => List.getElem?_append_left hn⟩
theorem Frm.set {p w n : Nat} {st : Sto} {o : O} (h : n = p ∨ n = w) : Frm p w st (st.set n o) := ⟨by simp, fun m hm h1 h2 => List.getElem?_set_ne (by omega)⟩
theorem Frm.get {p w n : Nat} {st st' : Sto} {o : O} (h : Frm p w st st') (e : st[n]? = some o) (h1 : n ≠ p) (h2 : n ≠ w) : st'[n]? = some o := (h.at_ n (List.getElem?_eq_some_iff.mp e).1 h1 h2).trans e
def dkv (w c : Nat) (r t : Int) : List (Key × D) := [(.inr "wide", .loc w), (.inr "cells", .loc c), (.inr "rest", .int r), (.inr "turn", .int t)]
@[simp] theorem dkv_wide {w c : Nat} {r t : Int} : valG (dkv w c r t) (.inr "wide") = some (.loc w) := rfl
@[simp] theorem dkv_cells {w c : Nat} {r t : Int} : valG (dkv w c r t) (.inr "cells") = some (.loc c) := rfl
@[simp] theorem dkv_rest {w c : Nat} {r t : Int} : valG (dkv w c r t) (.inr "rest") = some (.int r) := rfl
@[simp] theorem dkv_turn {w c : Nat} {r t : Int} : valG (dkv w c r t) (.inr "turn") = some (.int t) := rfl
@[simp] theorem dkv_putR {w c : Nat} {r t x : Int} : putG (dkv w c r t) (.inr "rest") (.int x) = dkv w c x t := rfl
@[simp] theorem dkv_putT {w c : Nat} {r t x : Int} : putG (dkv w c r t) (.inr "turn") (.int x) = dkv w c r x := rfl
@[simp] theorem dkv_len {w c : Nat} {r t : Int} : (dkv w c r t).length = 4 := rfl
structure DrwX (st : Sto) (p w c : Nat) (r t : Int) (ws cs : List Int) (T : Nat) : Prop where
  hp : st[p]? = some (.dK (dkv w c r t))
  hw : st[w]? = some (.lst (ws.map D.int))
  hc : st[c]? = some (.lst (cs.map D.int))
  pw : p ≠ w
  pc : p ≠ c
  wc : w ≠ c
  t0 : 0 ≤ t
  tT : t ≤ T
  wl : ws.length ≤ 63
  cl : cs.length ≤ 63
def Drw (st : Sto) (p w c T : Nat) : Prop := ∃ r t ws cs, DrwX st p w c r t ws cs T
theorem Drw.mono {st : Sto} {p w c T T' : Nat} (h : Drw st p w c T) (k : T ≤ T') : Drw st p w c T' := by
  obtain ⟨r, t, ws, cs, x⟩ := h
  exact ⟨r, t, ws, cs, x.hp, x.hw, x.hc, x.pw, x.pc, x.wc, x.t0, by have := x.tT; omega, x.wl, x.cl⟩
/-- it stays where none of its places is written -/
theorem Drw.app {st : Sto} {p w c T : Nat} (h : Drw st p w c T) (l : Sto) : Drw (st ++ l) p w c T := by
  obtain ⟨r, t, ws, cs, x⟩ := h
  have k : ∀ {n o}, st[n]? = some o → (st ++ l)[n]? = some o := fun e => by rw [List.getElem?_append_left (List.getElem?_eq_some_iff.mp e).1]; exact e
  exact ⟨r, t, ws, cs, k x.hp, k x.hw, k x.hc, x.pw, x.pc, x.wc, x.t0, x.tT, x.wl, x.cl⟩
theorem Drw.set {st : Sto} {p w c T n : Nat} {o : O} (h : Drw st p w c T) (h1 : n ≠ p) (h2 : n ≠ w) (h3 : n ≠ c) : Drw (st.set n o) p w c T := by
  obtain ⟨r, t, ws, cs, x⟩ := h
  exact ⟨r, t, ws, cs, by rw [List.getElem?_set_ne h1]; exact x.hp, by rw [List.getElem?_set_ne h2]; exact x.hw, by rw [List.getElem?_set_ne h3]; exact x.hc, x.pw, x.pc, x.wc, x.t0, x.tT, x.wl, x.cl⟩
theorem app_get {st : Sto} {n : Nat} {o : O} {l : Sto} (h : st[n]? = some o) : (st ++ l)[n]? = some o := by
  rw [List.getElem?_append_left (List.getElem?_eq_some_iff.mp h).1]
  exact h
theorem app_new {st : Sto} {o : O} : (st ++ [o])[st.length]? = some o := by simp
/-! ### single operations, at known values -/
section
variable {st : Sto} {i j : Int} {Q : D → Sto → Prop}
@[simp] theorem Wo_add : Wo oAdd (.int i, .int j) st Q ↔ Q (.int (i + j)) st := ⟨fun ⟨_, _, e, q⟩ => by cases e; exact q, fun q => ⟨_, _, rfl, q⟩⟩
@[simp] theorem Wo_sub : Wo oSub (.int i, .int j) st Q ↔ Q (.int (i - j)) st := ⟨fun ⟨_, _, e, q⟩ => by cases e; exact q, fun q => ⟨_, _, rfl, q⟩⟩
theorem Wo_oInt {C : Int → Int → Bool} {f : Int → Int → D} : Wo (oInt C f) (.int i, .int j) st Q ↔ C i j = true ∧ Q (f i j) st := by
  constructor
  · rintro ⟨a, s, e, q⟩
    unfold oInt at e
    dsimp only at e
    split at e
    · rename_i h
      cases e
      exact ⟨h, q⟩
    · cases e
  · rintro ⟨h, q⟩
    exact ⟨_, _, by unfold oInt; dsimp only; rw [if_pos h], q⟩
@[simp] theorem Wo_mul : Wo oMul (.int i, .int j) st Q ↔ ((-(2 ^ 64) < i ∧ i < 2 ^ 64) ∨ (-(2 ^ 64) < j ∧ j < 2 ^ 64)) ∧ Q (.int (i * j)) st := by
  unfold oMul
  rw [Wo_oInt]
  unfold cMul
  rw [decide_eq_true_eq]
@[simp] theorem Wo_div : Wo oDiv (.int i, .int j) st Q ↔ (0 < j ∧ j < 1073741824) ∧ Q (.int (i / j)) st := by
  unfold oDiv
  rw [Wo_oInt]
  unfold cDiv
  rw [decide_eq_true_eq]
@[simp] theorem Wo_mod : Wo oMod (.int i, .int j) st Q ↔ 0 < j ∧ Q (.int (i % j)) st := by
  unfold oMod
  rw [Wo_oInt]
  unfold cMod
  rw [decide_eq_true_eq]
@[simp] theorem Wo_pow : Wo oPow (.int i, .int j) st Q ↔ (0 ≤ j ∧ j ≤ 1000000 ∧ i.natAbs < 2 ^ 64) ∧ Q (.int (i ^ j.toNat)) st := by
  unfold oPow
  rw [Wo_oInt]
  unfold cPow
  rw [decide_eq_true_eq]
@[simp] theorem Wo_ge : Wo oGe (.int i, .int j) st Q ↔ Q (.bl (decide (j ≤ i))) st := by
  unfold oGe
  rw [Wo_oInt]
  simp [yes2]
@[simp] theorem Wo_gt : Wo oGt (.int i, .int j) st Q ↔ Q (.bl (decide (j < i))) st := by
  unfold oGt
  rw [Wo_oInt]
  simp [yes2]
@[simp] theorem Wo_lt : Wo oLt (.int i, .int j) st Q ↔ Q (.bl (decide (i < j))) st := ⟨fun ⟨_, _, e, q⟩ => by cases e; exact q, fun q => ⟨_, _, rfl, q⟩⟩
@[simp] theorem Wo_le : Wo oLe (.int i, .int j) st Q ↔ Q (.bl (decide (i ≤ j))) st := ⟨fun ⟨_, _, e, q⟩ => by cases e; exact q, fun q => ⟨_, _, rfl, q⟩⟩
@[simp] theorem Wo_eqI : Wo oEq (.int i, .int j) st Q ↔ Q (.bl (decide (i = j))) st := by
  have e : oEq (.int i, .int j) st = some (.bl (decide (i = j)), st) := by
    simp [oEq, dat64, dat, SeqAt.shaped, PyData.canLay0, PyData.depth]; rfl
  constructor
  · rintro ⟨a, s, e2, q⟩
    rw [e] at e2
    cases e2
    exact q
  · exact fun q => ⟨_, _, e, q⟩
@[simp] theorem Wo_neI : Wo oNe (.int i, .int j) st Q ↔ Q (.bl (!decide (i = j))) st := by
  have e : oNe (.int i, .int j) st = some (.bl (!decide (i = j)), st) := by
    simp [oNe, dat64, dat, SeqAt.shaped, PyData.canLay0, PyData.depth]; rfl
  constructor
  · rintro ⟨a, s, e2, q⟩
    rw [e] at e2
    cases e2
    exact q
  · exact fun q => ⟨_, _, e, q⟩
@[simp] theorem Wo_int1 : Wo oInt1 [.int i] st Q ↔ Q (.int i) st := ⟨fun ⟨_, _, e, q⟩ => by cases e; exact q, fun q => ⟨_, _, rfl, q⟩⟩
@[simp] theorem Wo_abs : Wo oAbs [.int i] st Q ↔ Q (.int (if i < 0 then -i else i)) st := ⟨fun ⟨_, _, e, q⟩ => by cases e; exact q, fun q => ⟨_, _, rfl, q⟩⟩
theorem Wo_lst {ds : List D} (h : ds.length ≤ sizeLine) : Wo oLst ds st Q ↔ Q (.loc st.length) (st ++ [.lst ds]) := by
  constructor
  · rintro ⟨a, s, e, q⟩
    unfold oLst at e
    rw [if_pos h] at e
    cases e
    exact q
  · exact fun q => ⟨_, _, by unfold oLst; rw [if_pos h], q⟩
theorem Wo_tup {ds : List D} (h : ds.length ≤ sizeLine) : Wo oTup ds st Q ↔ Q (.tup ds) st := by
  constructor
  · rintro ⟨a, s, e, q⟩
    unfold oTup at e
    rw [if_pos h] at e
    cases e
    exact q
  · exact fun q => ⟨_, _, by unfold oTup; rw [if_pos h], q⟩
theorem Wo_dget {n : Nat} {kvs : List (Key × D)} {x : Str} {d : D} (h : st[n]? = some (.dK kvs)) (hv : valG kvs (.inr x) = some d) : Wo oDget (.loc n, .str x) st Q ↔ Q d st := by
  have e : oDget (.loc n, .str x) st = some (d, st) := by
    unfold oDget
    simp [dget, h, keyK, hv]
  constructor
  · rintro ⟨a, s, e2, q⟩
    rw [e] at e2
    cases e2
    exact q
  · exact fun q => ⟨_, _, e, q⟩
end
end S3

set_option maxHeartbeats 4000000
/-! S4C: what the draws give. -/
namespace S3
open PySem PyProof.Rows L2
theorem ints_get {cs : List Int} {i : Nat} (h : i < cs.length) : (cs.map D.int)[i]? = some (.int cs[i]) := by simp [h]
theorem ints_end {cs : List Int} : (cs.map D.int)[cs.length]? = none := by simp
theorem srcL_loc {st : Sto} {n i : Nat} {ds : List D} (h : st[n]? = some (.lst ds)) : srcL (.loc n) st i = some ds[i]? := by
  unfold srcL
  simp [seqL, h]
theorem seqL_loc {st : Sto} {n : Nat} {ds : List D} (h : st[n]? = some (.lst ds)) : seqL st (.loc n) = some ds := by
  unfold seqL
  simp [h]
theorem small_sz {n : Nat} (h : n ≤ 1000000) : n ≤ sizeLine := Nat.le_trans h (by decide)
theorem small_sz' {n : Nat} (h : n < 1000000) : n < sizeLine := Nat.lt_of_lt_of_le h (by decide)
theorem Ok_overL {f : F3 D} {env : Env3} {st : Sto} {Q : Src → Sto → Prop} (h : Ok f env st fun d st1 => ∃ ds, seqL st1 d = some ds ∧ Q (srcL d) st1) : Ok (fOverL f) env st Q := by
  unfold fOverL
  rw [Ok_bnd]
  refine h.mono fun d s q => ?_
  obtain ⟨ds, e, q⟩ := q
  exact ⟨_, _, by dsimp only; rw [e], q⟩
theorem mixed_ok {st : Sto} {p w c T : Nat} (h : Drw st p w c T) (hT : T < 2 ^ 40) : Wd dr_mixed [.loc p] st fun r st' => (∃ x, r = .int x) ∧ Drw st' p w c (T + 1) ∧ Frm p w st st' := by
  obtain ⟨r, t, ws, cs, x⟩ := h
  have tT := x.tT
  have t0 := x.t0
  refine Wd_of ?_
  show Ws _ [some (.loc p), none, none, none, none, none] _ _
  unfold fr_mixed
  rw [Ws_seq]
  refine Ws_par ?_
  simp only [List.map_cons, List.map_nil, List.length_cons, List.length_nil, Ok_fCons, Ok_fB, Ok_var0, Ok_ret, Ok_fNil, Wo_dget x.hp dkv_turn, Wo_add]
  refine ⟨trivial, ?_⟩
  show Ws _ [some (.loc p), some (.int (t + 1)), some (.int 0), none, none, none] _ _
  rw [Ws_seq]
  refine Ws_sub ?_
  simp only [Ok_varS, Ok_var0, Ok_ret]
  refine ⟨st.set p (.dK (dkv w c r (t + 1))), by simp [oSet, x.hp, keyK, dkv_len]; exact if_pos (small_sz' (n := 4) (by decide)), ?_⟩
  show Ws _ _ _ _
  have hp : p < st.length := (List.getElem?_eq_some_iff.mp x.hp).1
  have hc1 : (st.set p (.dK (dkv w c r (t + 1))))[c]? = some (.lst (cs.map D.int)) := by rw [List.getElem?_set_ne x.pc]; exact x.hc
  have hp1 : (st.set p (.dK (dkv w c r (t + 1))))[p]? = some (.dK (dkv w c r (t + 1))) := List.getElem?_set_self hp
  have hw1 : (st.set p (.dK (dkv w c r (t + 1))))[w]? = some (.lst (ws.map D.int)) := by rw [List.getElem?_set_ne x.pw]; exact x.hw
  have fr1 : Frm p w st (st.set p (.dK (dkv w c r (t + 1)))) := Frm.set (.inl rfl)
  have dr1 : Drw (st.set p (.dK (dkv w c r (t + 1)))) p w c (T + 1) := ⟨r, t + 1, ws, cs, hp1, hw1, hc1, x.pw, x.pc, x.wc, by omega, by omega, x.wl, x.cl⟩
  generalize st.set p (.dK (dkv w c r (t + 1))) = st1 at hc1 hp1 hw1 fr1 dr1 ⊢
  rw [Ws_seq]
  refine Ws_for (Ok_overL ?_)
  simp only [Ok_fArgs, Ok_fCons, Ok_ret, Ok_fNil]
  rw [Wo_lst (small_sz (by simp))]
  refine ⟨_, seqL_loc app_new, 4, fun i env s => (∃ f e3 e4 e5, env = [some (.loc p), some (.int (t + 1)), some (.int f), e3, e4, e5]) ∧ s = st1 ++ [.lst [.int 2147483647, .int 2147483629, .int 2147483587, .int 2147483579]], by decide, ⟨⟨0, none, none, none, rfl⟩, rfl⟩, ?_, ?_⟩
  · rintro i env s hi ⟨⟨f, e3, e4, e5, rfl⟩, rfl⟩
    rw [srcL_loc (ds := [.int 2147483647, .int 2147483629, .int 2147483587, .int 2147483579]) (by simp)]
    have hpr : ∃ pr : Int, ([.int 2147483647, .int 2147483629, .int 2147483587, .int 2147483579] : List D)[i]? = some (.int pr) ∧ 2147483579 ≤ pr ∧ pr ≤ 2147483647 := by
      match i, hi with
      | 0, _ => exact ⟨_, rfl, by decide, by decide⟩
      | 1, _ => exact ⟨_, rfl, by decide, by decide⟩
      | 2, _ => exact ⟨_, rfl, by decide, by decide⟩
      | 3, _ => exact ⟨_, rfl, by decide, by decide⟩
    obtain ⟨pr, epr, hp1', hp2'⟩ := hpr
    refine ⟨_, _, _, by rw [epr], rfl, ?_⟩
    show Ws _ [some (.loc p), some (.int (t + 1)), some (.int f), some (.int pr), e4, e5] _ _
    rw [Ws_seq]
    refine Ws_set ?_
    simp only [Ok_fB, Ok_varS, Ok_var0, Ok_ret, Wo_mul, Wo_div, Wo_add]
    refine ⟨.inl (by decide), ⟨by decide, by decide⟩, ?_⟩
    show Ws _ [some (.loc p), some (.int (t + 1)), some (.int f), some (.int pr), some (.int (48271 * (t + 1) + pr / 37)), e5] _ _
    have hb : 0 ≤ 48271 * (t + 1) + pr / 37 ∧ 48271 * (t + 1) + pr / 37 < 2 ^ 64 := by
      have : pr / 37 ≤ pr := Int.ediv_le_self _ (by omega)
      have : 0 ≤ pr / 37 := Int.ediv_nonneg (by omega) (by decide)
      constructor <;> omega
    generalize 48271 * (t + 1) + pr / 37 = b at hb
    rw [Ws_seq]
    refine Ws_for (Ok_overL ?_)
    simp only [Ok_fB, Ok_var0, Ok_ret]
    rw [Wo_dget (app_get hp1) dkv_cells]
    refine ⟨_, seqL_loc (app_get hc1), cs.length, fun j env s => (∃ b e5, env = [some (.loc p), some (.int (t + 1)), some (.int f), some (.int pr), some (.int b), e5] ∧ 0 ≤ b ∧ b < 2 ^ 64) ∧ s = st1 ++ [.lst [.int 2147483647, .int 2147483629, .int 2147483587, .int 2147483579]], by have := x.cl; show cs.length < 1000000; omega, ⟨⟨b, e5, rfl, hb.1, hb.2⟩, rfl⟩, ?_, ?_⟩
    · rintro j env s hj ⟨⟨b, e5, rfl, b0, b1⟩, rfl⟩
      rw [srcL_loc (app_get hc1), ints_get hj]
      refine ⟨_, _, _, rfl, rfl, ?_⟩
      show Ws _ [some (.loc p), some (.int (t + 1)), some (.int f), some (.int pr), some (.int b), some (.int cs[j])] _ _
      refine Ws_set ?_
      simp only [Ok_fB, Ok_fArgs, Ok_fCons, Ok_fNil, Ok_varS, Ok_var0, Ok_ret, Wo_mul, Wo_add, Wo_int1, Wo_mod]
      refine ⟨.inr (by decide), by omega, ⟨_, _, rfl, Int.emod_nonneg _ (by omega), ?_⟩, trivial⟩
      have := Int.emod_lt_of_pos (b * 69621 + cs[j] + (t + 1)) (show 0 < pr by omega)
      omega
    · rintro env s ⟨⟨b, e5, rfl, b0, b1⟩, rfl⟩
      refine ⟨by rw [srcL_loc (app_get hc1), ints_end], ?_⟩
      show Ws _ _ _ _
      refine Ws_set ?_
      simp only [Ok_fB, Ok_fArgs, Ok_fCons, Ok_fNil, Ok_varS, Ok_var0, Ok_ret, Wo_mul, Wo_add, Wo_int1, Wo_mod, Wo_pow]
      refine ⟨.inr (by decide), ⟨by decide, by decide, by omega⟩, by omega, ⟨_, _, _, _, rfl⟩, trivial⟩
  · rintro env s ⟨⟨f, e3, e4, e5, rfl⟩, rfl⟩
    refine ⟨by rw [srcL_loc (ds := [.int 2147483647, .int 2147483629, .int 2147483587, .int 2147483579]) (by simp)]; rfl, ?_⟩
    show Ws _ _ _ _
    refine Ws_ret ?_
    simp only [Ok_varS, Ok_var0]
    exact ⟨⟨_, rfl⟩, dr1.app _, fr1.trans (Frm.app _)⟩
/-! ### lists as data -/
theorem mapO_ints {st : Sto} {n : Nat} : ∀ ws : List Int, mapO (dat st (n + 1)) (ws.map D.int) = some (ws.map PyData.int)
  | [] => rfl
  | w :: ws => by
    have ih := mapO_ints (st := st) (n := n) ws
    show mapO (dat st (n + 1)) (.int w :: ws.map D.int) = _
    unfold mapO
    rw [ih]
    rfl
theorem lay_ints : ∀ ws : List Int, PyData.canLayAll0 (ws.map PyData.int) = true ∧ PyData.depthAll (ws.map PyData.int) = 0
  | [] => ⟨rfl, rfl⟩
  | w :: ws => by
    obtain ⟨h1, h2⟩ := lay_ints ws
    constructor
    · show (PyData.canLay0 (.int w) && PyData.canLayAll0 (ws.map PyData.int)) = true
      rw [h1]
      rfl
    · show max (PyData.depth (.int w)) (PyData.depthAll (ws.map PyData.int)) = 0
      rw [h2]
      rfl
theorem dat64_ints {st : Sto} {n : Nat} {ws : List Int} (h : st[n]? = some (.lst (ws.map D.int))) : dat64 st (.loc n) = some (.list (ws.map PyData.int)) := by
  have e : dat st 66 (.loc n) = some (.list (ws.map PyData.int)) := by
    show dat st (65 + 1) (.loc n) = _
    unfold dat
    rw [h]
    dsimp only
    rw [mapO_ints (n := 64) ws]
  obtain ⟨h1, h2⟩ := lay_ints ws
  have h3 : SeqAt.shaped (PyData.list (ws.map PyData.int)) = true := by
    have h4 : PyData.canLay0 (PyData.list (ws.map PyData.int)) = true := h1
    have h5 : PyData.depth (PyData.list (ws.map PyData.int)) = 1 := by
      show PyData.depthAll (ws.map PyData.int) + 1 = 1
      rw [h2]
    simp [SeqAt.shaped, h4, h5]
  unfold dat64
  rw [e]
  simp [h3]
theorem Wo_ne_nil {st : Sto} {n m : Nat} {ws : List Int} {Q : D → Sto → Prop} (h : st[n]? = some (.lst (ws.map D.int))) (h2 : st[m]? = some (.lst [])) : Wo oNe (.loc n, .loc m) st Q ↔ Q (.bl (!ws.isEmpty)) st := by
  have e : oNe (.loc n, .loc m) st = some (.bl (!ws.isEmpty), st) := by
    unfold oNe
    rw [dat64_ints h, dat64_ints (ws := []) h2]
    cases ws <;> rfl
  constructor
  · rintro ⟨a, s, e2, q⟩
    rw [e] at e2
    cases e2
    exact q
  · exact fun q => ⟨_, _, e, q⟩
theorem Wo_popAt {st : Sto} {n : Nat} {ds : List D} {i : Nat} {d : D} {Q : D → Sto → Prop} (h : st[n]? = some (.lst ds)) (hd : ds[i]? = some d) (hl : ds.length ≤ 1000000) : Wo oPopAt (.loc n, [.int (i : Nat)]) st Q ↔ Q d (st.set n (.lst (ds.eraseIdx i))) := by
  have hi : i < ds.length := (List.getElem?_eq_some_iff.mp hd).1
  have e : oPopAt (.loc n, [.int (i : Nat)]) st = some (d, st.set n (.lst (ds.eraseIdx i))) := by
    unfold oPopAt
    have e1 : ownL st (.loc n) = some (n, ds) := by simp [ownL, h]
    have e2 : seqIndex? (i : Nat) ds.length = some i := by
      unfold seqIndex?
      simp
      omega
    simp only [e1]
    rw [if_pos (by omega), e2]
    simp only [hd]
  constructor
  · rintro ⟨a, s, e2, q⟩
    rw [e] at e2
    cases e2
    exact q
  · exact fun q => ⟨_, _, e, q⟩
theorem Drw.oSetR {st : Sto} {p w c T : Nat} (h : Drw st p w c T) (x : Int) : ∃ st', oSet st (.loc p) (.str "rest") (.int x) = some st' ∧ Drw st' p w c T ∧ Frm p w st st' ∧ st'.length = st.length ∧ ∃ t ws cs, DrwX st' p w c x t ws cs T := by
  obtain ⟨r, t, ws, cs, y⟩ := h
  have hp : p < st.length := (List.getElem?_eq_some_iff.mp y.hp).1
  have hx : DrwX (st.set p (.dK (dkv w c x t))) p w c x t ws cs T := ⟨List.getElem?_set_self hp, by rw [List.getElem?_set_ne y.pw]; exact y.hw, by rw [List.getElem?_set_ne y.pc]; exact y.hc, y.pw, y.pc, y.wc, y.t0, y.tT, y.wl, y.cl⟩
  exact ⟨st.set p (.dK (dkv w c x t)), by simp [oSet, y.hp, keyK, dkv_len]; exact if_pos (small_sz' (n := 4) (by decide)), ⟨x, t, ws, cs, hx⟩, Frm.set (.inl rfl), by simp, t, ws, cs, hx⟩
theorem take_ok {st : Sto} {p w c T : Nat} {many : Int} (h : Drw st p w c T) (hT : T < 2 ^ 40) (hm : 0 < many) (hm2 : many < 1073741824) : Wd dr_take [.loc p, .int many] st fun r st' => (∃ x, r = .int x ∧ 0 ≤ x ∧ x < many) ∧ Drw st' p w c (T + 1) ∧ Frm p w st st' := by
  refine Wd_of ?_
  show Ws _ [some (.loc p), some (.int many), none] _ _
  unfold fr_take
  rw [Ws_seq]
  have first : Ws (fIfS (bnd (fB oEq (fB oDget (fVar 0) (ret3 (.str "rest"))) (ret3 (.int 0))) asB)
    (fAsg (fIf (bnd (fB oNe (fB oDget (fVar 0) (ret3 (.str "wide"))) (fArgs oLst fNil)) asB) (fMeth oPopAt (fB oDget (fVar 0) (ret3 (.str "wide"))) (fCons (ret3 (.int 0)) fNil)) (fCall 1 dr_mixed (fCons (fVar 0) fNil))) (gSub3 (fVar 0) (ret3 (.str "rest"))))
    fNop) [some (.loc p), some (.int many), none] st (fun r env st1 => r = .nx ∧ env = [some (.loc p), some (.int many), none] ∧ Drw st1 p w c (T + 1) ∧ Frm p w st st1) := by
    obtain ⟨r, t, ws, cs, x⟩ := h
    refine Ws_if ?_
    simp only [Ok_bnd, Ok_fB, Ok_var0, Ok_ret, Wo_dget x.hp dkv_rest, Wo_eqI, Ok_asB, D.bl.injEq, exists_eq_left']
    by_cases hr : r = 0
    · rw [if_pos (by simpa using hr)]
      refine Ws_sub ?_
      simp only [Ok_fIf, Ok_bnd, Ok_fB, Ok_var0, Ok_ret, Wo_dget x.hp dkv_wide, Ok_fArgs, Ok_fNil]
      rw [Wo_lst (small_sz (by simp)), Wo_ne_nil (app_get x.hw) app_new]
      simp only [Ok_asB, D.bl.injEq, exists_eq_left']
      have hp2 := app_get (l := [O.lst []]) x.hp
      have hw2 := app_get (l := [O.lst []]) x.hw
      have d2 : Drw (st ++ [O.lst []]) p w c T := Drw.app ⟨r, t, ws, cs, x⟩ _
      cases ws with
      | nil =>
        rw [if_neg (by simp)]
        simp only [Ok_fCall, Ok_fCons, Ok_var0, Ok_fNil]
        refine ⟨rfl, (mixed_ok d2 hT).mono fun v st2 hv => ?_⟩
        obtain ⟨⟨y, rfl⟩, dd, ff⟩ := hv
        obtain ⟨st3, e3, d3, f3, _, _⟩ := dd.oSetR y
        exact ⟨st3, e3, trivial, trivial, d3, ((Frm.app _).trans ff).trans f3⟩
      | cons y ws' =>
        rw [if_pos (by simp)]
        simp only [Ok_fMeth, Ok_fB, Ok_var0, Ok_ret, Wo_dget hp2 dkv_wide, Ok_fCons, Ok_fNil]
        refine ⟨by rw [seqL_loc hw2]; rfl, ?_⟩
        rw [show (0 : Int) = ((0 : Nat) : Int) by rfl, Wo_popAt hw2 (by rfl) (by have := x.wl; simp at this ⊢; omega)]
        have hwl : w < (st ++ [O.lst []]).length := (List.getElem?_eq_some_iff.mp hw2).1
        have d3 : Drw ((st ++ [O.lst []]).set w (.lst (ws'.map D.int))) p w c T := ⟨r, t, ws', cs, by rw [List.getElem?_set_ne (Ne.symm x.pw)]; exact hp2, List.getElem?_set_self hwl, by rw [List.getElem?_set_ne x.wc]; exact app_get x.hc, x.pw, x.pc, x.wc, x.t0, x.tT, by have := x.wl; simp at this; omega, x.cl⟩
        obtain ⟨st4, e4, d4, f4, _, _⟩ := d3.oSetR y
        exact ⟨st4, e4, trivial, trivial, d4.mono (by omega), ((Frm.app _).trans (Frm.set (.inr rfl))).trans f4⟩
    · rw [if_neg (by simpa using hr)]
      rw [Ws_nop]
      exact ⟨rfl, rfl, Drw.mono ⟨r, t, ws, cs, x⟩ (by omega), Frm.refl _⟩
  refine first.mono fun rr env st1 hh => ?_
  obtain ⟨rfl, rfl, d1, f1⟩ := hh
  rw [thenS_nx, Ws_seq]
  obtain ⟨r, t, ws, cs, x⟩ := id d1
  refine Ws_set ?_
  simp only [Ok_fB, Ok_fArgs, Ok_fCons, Ok_fNil, Ok_varS, Ok_var0, Ok_ret, Wo_dget x.hp dkv_rest, Wo_int1, Wo_mod]
  refine ⟨hm, ?_⟩
  show Ws _ [some (.loc p), some (.int many), some (.int (r % many))] _ _
  rw [Ws_seq]
  refine Ws_sub ?_
  simp only [Ok_fB, Ok_varS, Ok_var0, Ok_ret, Wo_dget x.hp dkv_rest, Wo_div]
  refine ⟨⟨hm, hm2⟩, ?_⟩
  obtain ⟨st2, e2, d2, f2, _, _⟩ := d1.oSetR (r / many)
  refine ⟨st2, e2, ?_⟩
  rw [thenS_nx]
  refine Ws_ret ?_
  simp only [Ok_varS, Ok_var0]
  exact ⟨⟨_, rfl, Int.emod_nonneg _ (by omega), Int.emod_lt_of_pos _ hm⟩, d2, f1.trans f2⟩
end S3

set_option maxHeartbeats 4000000
/-! S4D: picks, shuffles, the draw's begin. -/
namespace S3
open PySem PyProof.Rows L2
section
variable {st : Sto} {x : D} {ds : List D} {Q : D → Sto → Prop}
theorem Wo_iff {α β : Type} {o : F1 α β} {a : α} {st st2 : Sto} {b : β} {Q : β → Sto → Prop} (e : o a st = some (b, st2)) : Wo o a st Q ↔ Q b st2 := by
  constructor
  · rintro ⟨c, s, e2, q⟩
    rw [e] at e2
    cases e2
    exact q
  · exact fun q => ⟨_, _, e, q⟩
theorem seqA_ns {z : Str} : seqA st (.str z) = none := by simp [seqA, seqT, seqL]
theorem Wo_len (h : seqA st x = some ds) : Wo oLen [x] st Q ↔ Q (.int ds.length) st := Wo_iff (by
  unfold oLen
  split
  · rename_i z hz
    cases hz
    rw [seqA_ns] at h
    cases h
  · rename_i y hy hz
    cases hz
    rw [h]
  · rename_i h1 h2
    exact absurd rfl (h2 x))
theorem Wo_ix {n : Nat} {d : D} (h : seqA st x = some ds) (hd : ds[n]? = some d) : Wo oIx (x, .int (n : Nat)) st Q ↔ Q d st := Wo_iff (by
  unfold oIx
  dsimp only
  split
  · rw [seqA_ns] at h
    cases h
  · rw [h]
    dsimp only
    have : L2.atI ds (n : Nat) = some d := by
      have hn : n < ds.length := (List.getElem?_eq_some_iff.mp hd).1
      unfold L2.atI L2.ixN
      rw [if_pos (by omega), if_pos (by omega)]
      simp [hd]
    rw [this])
theorem seqA_loc {n : Nat} (h : st[n]? = some (.lst ds)) : seqA st (.loc n) = some ds := by
  unfold seqA
  simp [seqT, seqL, h]
theorem seqA_tup : seqA st (.tup ds) = some ds := by simp [seqA, seqT]
theorem Wo_app {n : Nat} {y : D} (h : st[n]? = some (.lst ds)) (hl : ds.length < 1000000) : Wo oApp (.loc n, [y]) st Q ↔ Q .non (st.set n (.lst (ds ++ [y]))) := Wo_iff (by
  unfold oApp
  have e1 : ownL st (.loc n) = some (n, ds) := by simp [ownL, h]
  simp only [e1]
  rw [if_pos (small_sz' hl)])
end
theorem eraseIdx_map' {α β : Type} (f : α → β) : ∀ (l : List α) (i : Nat), (l.map f).eraseIdx i = (l.eraseIdx i).map f
  | [], _ => rfl
  | _ :: _, 0 => rfl
  | a :: l, i + 1 => by
    show f a :: (l.map f).eraseIdx i = f a :: (l.eraseIdx i).map f
    rw [eraseIdx_map' f l i]
theorem erase_perm {α : Type} : ∀ {l : List α} {i : Nat} (h : i < l.length), (l[i] :: l.eraseIdx i).Perm l
  | a :: l, 0, _ => List.Perm.refl _
  | a :: l, i + 1, h => by
    have h' : i < l.length := by simpa using h
    have ih := erase_perm h'
    show (l[i] :: a :: l.eraseIdx i).Perm (a :: l)
    exact (List.Perm.swap a l[i] _).trans (ih.cons a)
theorem Frm.setNew {p w n : Nat} {st st' : Sto} {o : O} (f : Frm p w st st') (h : st.length ≤ n) : Frm p w st (st'.set n o) := ⟨by have := f.len; simpa using this, fun m hm h1 h2 => by rw [List.getElem?_set_ne (by omega)]; exact f.at_ m hm h1 h2⟩
theorem Frm.drw {p w c T : Nat} {st st' : Sto} (_h : Drw st p w c T) (f : Frm p w st st') {n : Nat} {o : O} (e : st[n]? = some o) (h1 : n ≠ p) (h2 : n ≠ w) : st'[n]? = some o := f.get e h1 h2
theorem pick_ok {st : Sto} {p w c T : Nat} {x : D} {ds : List D} (h : Drw st p w c T) (hT : T < 2 ^ 40) (hx : ∀ st', Frm p w st st' → seqA st' x = some ds) (h0 : 0 < ds.length) (h1 : ds.length < 1000000) : Wd dr_pick [.loc p, x] st fun r st' => r ∈ ds ∧ Drw st' p w c (T + 1) ∧ Frm p w st st' := by
  refine Wd_of ?_
  show Ws _ [some (.loc p), some x] _ _
  unfold fr_pick
  refine Ws_ret ?_
  simp only [Ok_fB, Ok_varS, Ok_var0, Ok_fCall, Ok_fCons, Ok_fNil, Ok_fArgs]
  rw [Wo_len (hx st (Frm.refl st))]
  refine ⟨rfl, (take_ok h hT (by omega) (by omega)).mono fun r st2 hr => ?_⟩
  obtain ⟨⟨i, rfl, i0, i1⟩, d2, f2⟩ := hr
  have hi : i.toNat < ds.length := by omega
  have e : i = ((i.toNat : Nat) : Int) := by omega
  rw [e, Wo_ix (hx st2 f2) (List.getElem?_eq_getElem hi)]
  exact ⟨List.getElem_mem hi, d2, f2⟩
theorem shuffled_ok {st : Sto} {p w c T : Nat} {x : D} {ns : List Int} (h : Drw st p w c T) (hT : T + ns.length < 2 ^ 40) (hx : seqA st x = some (ns.map D.int)) (h1 : ns.length < 1000000) : Wd dr_shuffled [.loc p, x] st fun r st' => (∃ (m : Nat) (ms : List Int), r = .loc m ∧ st.length ≤ m ∧ st'[m]? = some (.lst (ms.map D.int)) ∧ ms.Perm ns) ∧ Drw st' p w c (T + ns.length) ∧ Frm p w st st' := by
  obtain ⟨hpl, hwl, hcl⟩ : p < st.length ∧ w < st.length ∧ c < st.length := by
    obtain ⟨r, t, ws, cs, y⟩ := h
    exact ⟨(List.getElem?_eq_some_iff.mp y.hp).1, (List.getElem?_eq_some_iff.mp y.hw).1, (List.getElem?_eq_some_iff.mp y.hc).1⟩
  refine Wd_of ?_
  show Ws _ [some (.loc p), some x, none, none] _ _
  unfold fr_shuffled
  rw [Ws_seq]
  refine Ws_par ?_
  simp only [Ok_fCons, Ok_fArgs, Ok_varS, Ok_var0, Ok_fNil]
  have eL : oList [x] st = some (.loc st.length, st ++ [.lst (ns.map D.int)]) := by
    unfold oList
    simp [hx]
  rw [Wo_iff eL, Wo_lst (small_sz (by simp))]
  refine ⟨rfl, ?_⟩
  rw [thenS_nx]
  show Ws _ [some (.loc p), some x, some (.loc st.length), some (.loc (st ++ [O.lst (ns.map D.int)]).length)] _ _
  rw [show (st ++ [O.lst (ns.map D.int)]).length = st.length + 1 by simp, Ws_seq]
  refine Ws_while (fun k env s => env = [some (.loc p), some x, some (.loc st.length), some (.loc (st.length + 1))] ∧ ∃ ls fs : List Int, ls.length = k ∧ s[st.length]? = some (.lst (ls.map D.int)) ∧ s[st.length + 1]? = some (.lst (fs.map D.int)) ∧ (fs ++ ls).Perm ns ∧ Drw s p w c (T + fs.length) ∧ Frm p w st s) ?_ loopN ns.length _ _ (by show ns.length < 1000000; omega) ⟨rfl, ns, [], rfl, by simp, by simp, by simp, ?_, ?_⟩
  · rintro k env s ⟨rfl, ls, fs, hk, e1, e2, hp, dd, ff⟩
    have hsum : fs.length + ls.length = ns.length := by
      have := hp.length_eq
      simpa using this
    simp only [Ok_bnd, Ok_fB, Ok_varS, Ok_var0, Ok_fArgs, Ok_fNil]
    rw [Wo_lst (small_sz (by simp)), Wo_ne_nil (app_get e1) app_new]
    simp only [Ok_asB, D.bl.injEq, exists_eq_left']
    have d2 : Drw (s ++ [O.lst []]) p w c (T + fs.length) := dd.app _
    have e1' := app_get (l := [O.lst []]) e1
    have e2' := app_get (l := [O.lst []]) e2
    cases hls : ls with
    | nil =>
      rw [if_neg (by simp)]
      rw [thenS_nx]
      refine Ws_ret ?_
      simp only [Ok_varS, Ok_var0]
      subst hls
      refine ⟨⟨_, fs, rfl, by omega, e2', by simpa using hp⟩, ?_, ff.trans (Frm.app _)⟩
      have : fs.length = ns.length := by simpa using hsum
      rw [← this]
      exact d2
    | cons y ls' =>
      rw [if_pos (by simp)]
      refine Ws_drop ?_
      simp only [Ok_fMeth, Ok_varS, Ok_var0, Ok_fCons, Ok_fNil, Ok_fCall, Ok_fArgs]
      refine ⟨by rw [seqL_loc e2']; rfl, by rw [seqL_loc e1']; rfl, ?_⟩
      rw [Wo_len (seqA_loc e1')]
      have hlpos : 0 < ls.length := by rw [hls]; simp
      refine ⟨rfl, (take_ok d2 (by omega) (by simp; omega) (by simp; omega)).mono fun r st2 hr => ?_⟩
      obtain ⟨⟨i, rfl, i0, i1⟩, d3, f3⟩ := hr
      have g1 : st2[st.length]? = some (.lst (ls.map D.int)) := f3.get e1' (by omega) (by omega)
      have g2 : st2[st.length + 1]? = some (.lst (fs.map D.int)) := f3.get e2' (by omega) (by omega)
      have hi : i.toNat < ls.length := by simp at i1; omega
      have e : i = ((i.toNat : Nat) : Int) := by omega
      rw [e, Wo_popAt g1 (ints_get hi) (by simp; omega)]
      have l0 : st.length < st2.length := (List.getElem?_eq_some_iff.mp g1).1
      have l1 : st.length + 1 < st2.length := (List.getElem?_eq_some_iff.mp g2).1
      rw [Wo_app (n := st.length + 1) (ds := fs.map D.int) (by rw [List.getElem?_set_ne (by omega)]; exact g2) (by simp; omega)]
      refine ⟨(ls.eraseIdx i.toNat).length, by rw [List.length_eraseIdx_of_lt hi]; omega, trivial, ls.eraseIdx i.toNat, fs ++ [ls[i.toNat]], rfl, ?_, ?_, ?_, ?_, ?_⟩
      · rw [List.getElem?_set_ne (by omega), List.getElem?_set_self l0]
        rw [eraseIdx_map']
      · rw [List.getElem?_set_self (by simpa using l1)]
        simp
      · refine List.Perm.trans ?_ hp
        have pe : (ls[i.toNat] :: ls.eraseIdx i.toNat).Perm ls := erase_perm hi
        rw [List.append_assoc]
        exact List.Perm.append_left fs pe
      · have : T + (fs ++ [ls[i.toNat]]).length = T + fs.length + 1 := by simp; omega
        rw [this]
        exact (d3.set (by omega) (by omega) (by omega)).set (by omega) (by omega) (by omega)
      · exact (((ff.trans (Frm.app _)).trans f3).setNew (by omega)).setNew (by omega)
  · exact (h.app _).app _
  · exact (Frm.app _).trans (Frm.app _)
end S3

set_option maxHeartbeats 4000000
/-! S4E: comprehensions that write nothing; the draw's begin. -/
namespace S3
open PySem PyProof.Rows L2
/-- only new things were laid -/
def Pre (a b : Sto) : Prop := ∃ l, b = a ++ l
theorem Pre.refl (a : Sto) : Pre a a := ⟨[], by simp⟩
theorem Pre.trans {a b c : Sto} (h : Pre a b) (k : Pre b c) : Pre a c := by
  obtain ⟨l, rfl⟩ := h
  obtain ⟨m, rfl⟩ := k
  exact ⟨l ++ m, by simp⟩
theorem Pre.app (a l : Sto) : Pre a (a ++ l) := ⟨l, rfl⟩
theorem Pre.get {a b : Sto} (h : Pre a b) {n : Nat} {o : O} (e : a[n]? = some o) : b[n]? = some o := by
  obtain ⟨l, rfl⟩ := h
  exact app_get e
theorem Pre.len {a b : Sto} (h : Pre a b) : a.length ≤ b.length := by
  obtain ⟨l, rfl⟩ := h
  simp
theorem Pre.setNew {a b : Sto} (h : Pre a b) {n : Nat} {o : O} (hn : a.length ≤ n) : Pre a (b.set n o) := by
  obtain ⟨l, rfl⟩ := h
  rw [List.set_append_right _ _ hn]
  exact ⟨_, rfl⟩
theorem Pre.frm {p w : Nat} {a b : Sto} (h : Pre a b) : Frm p w a b := by
  obtain ⟨l, rfl⟩ := h
  exact Frm.app _
theorem Pre.drw {p w c T : Nat} {a b : Sto} (h : Pre a b) (d : Drw a p w c T) : Drw b p w c T := by
  obtain ⟨l, rfl⟩ := h
  exact d.app _
theorem Pre.seqL {a b : Sto} (h : Pre a b) {d : D} {ds : List D} (e : seqL a d = some ds) : seqL b d = some ds := by
  unfold S3.seqL at e ⊢
  split at e
  · exact e
  · split at e
    · rename_i h1
      rw [h.get h1]
      exact e
    · cases e
  · cases e
theorem Pre.seqA {a b : Sto} (h : Pre a b) {d : D} {ds : List D} (e : seqA a d = some ds) : seqA b d = some ds := by
  cases hT : seqT d with
  | some x =>
    simp only [S3.seqA, hT] at e ⊢
    exact e
  | none =>
    simp only [S3.seqA, hT] at e ⊢
    exact h.seqL e
theorem lt_loop {n : Nat} (h : n < 1000000) : n < loopN := h
theorem filter_all {α : Type} (l : List α) : l.filter (fun _ => true) = l := List.filter_eq_self.mpr fun _ _ => rfl
theorem filter_take {α : Type} (G : α → Bool) {l : List α} {i : Nat} {d : α} (h : l[i]? = some d) : (l.take (i + 1)).filter G = (l.take i).filter G ++ (if G d = true then [d] else []) := by
  rw [List.take_add_one, h, List.filter_append]
  congr 1
  show [d].filter G = _
  cases hg : G d <;> simp [hg]
section
variable {env : Env3} {st : Sto}
/-- a comprehension that writes nothing -/
theorem Ok_lcP {n : Nat} {vs : List Nat} {fi : F3 Src} {gt : G3} {ft : F3 Bool} {fe : F3 D} {Q : D → Sto → Prop}
    (h : Ok fi env st fun src st0 => ∃ (items : List D) (G : D → Bool) (F : D → D), items.length < n ∧ items.length < 1000000 ∧ (∀ s i, Pre st0 s → src s i = some items[i]?) ∧
      (∀ d s, d ∈ items → Pre st0 s → ∃ env1, gt d (wipeE env vs) s = some (env1, s) ∧ Ok ft env1 s fun b s2 => b = G d ∧ Pre s s2 ∧ (b = true → Ok fe env1 s2 fun y s3 => y = F d ∧ Pre s2 s3)) ∧
      ∀ s, Pre st0 s → s[st0.length]? = some (.lst ((items.filter G).map F)) → Q (.loc st0.length) s) : Ok (fLc n vs fi gt ft fe) env st Q := by
  refine Ok_lc (h.mono fun src st0 q => ?_)
  obtain ⟨items, G, F, hn, hz, hs, hd, hq⟩ := q
  refine ⟨items.length, fun i acc s => acc = ((items.take i).filter G).map F ∧ Pre st0 s, hn, ⟨rfl, Pre.app _ _⟩, ?_, ?_⟩
  · rintro i acc s hi ⟨rfl, ps⟩ hD
    have hget : items[i]? = some items[i] := List.getElem?_eq_getElem hi
    obtain ⟨env1, e1, h1⟩ := hd items[i] s (List.getElem_mem hi) ps
    refine ⟨items[i], env1, s, by rw [hs s i ps, hget], e1, h1.mono fun b s2 hb => ?_⟩
    obtain ⟨rfl, p2, h2⟩ := hb
    have hacc : (((items.take i).filter G).map F).length ≤ i := by
      rw [List.length_map]
      exact Nat.le_trans (List.length_filter_le _ _) (by simp; omega)
    cases hg : G items[i] with
    | true =>
      rw [if_pos rfl]
      refine (h2 hg).mono fun y s3 hy => ?_
      obtain ⟨rfl, p3⟩ := hy
      refine ⟨p3.get (p2.get hD), small_sz' (by omega), ?_, ((ps.trans p2).trans p3).setNew (Nat.le_refl _)⟩
      rw [filter_take G hget, hg, if_pos rfl, List.map_append]
      rfl
    | false =>
      rw [if_neg (by simp)]
      refine ⟨p2.get hD, ?_, ps.trans p2⟩
      rw [filter_take G hget, hg, if_neg (by simp), List.append_nil]
  · rintro acc s ⟨rfl, ps⟩ hD
    rw [List.take_length] at hD
    exact ⟨by rw [hs s _ ps]; simp, hq s ps hD⟩
theorem Ok_overT {f : F3 D} {Q : Src → Sto → Prop} (h : Ok f env st fun d st1 => ∃ ds, seqT d = some ds ∧ Q (srcT ds) st1) : Ok (fOverT f) env st Q := by
  unfold fOverT
  rw [Ok_bnd]
  refine h.mono fun d s q => ?_
  obtain ⟨ds, e, q⟩ := q
  exact ⟨_, _, by dsimp only; rw [e], q⟩
theorem Ok_overR {f : F3 (List D)} {Q : Src → Sto → Prop} (h : Ok f env st fun ds st1 => ∃ j : Nat, ds = [.int j] ∧ j < 1000000 ∧ Q (srcR 0 j) st1) : Ok (fOverR f) env st Q := by
  unfold fOverR
  rw [Ok_bnd]
  refine h.mono fun d s q => ?_
  obtain ⟨j, rfl, hj, q⟩ := q
  refine ⟨_, _, by dsimp only; rw [if_pos (by omega)], by simpa using q⟩
theorem Ok_overET {f : F3 (List D)} {Q : Src → Sto → Prop} (h : Ok f env st fun ds st1 => ∃ d xs, ds = [d] ∧ seqT d = some xs ∧ Q (srcET xs) st1) : Ok (fOverET f) env st Q := by
  unfold fOverET
  rw [Ok_bnd]
  refine h.mono fun d s q => ?_
  obtain ⟨d, xs, rfl, e, q⟩ := q
  exact ⟨_, _, by dsimp only; rw [e], q⟩
theorem Ok_overZ {f : F3 (List D)} {Q : Src → Sto → Prop} (h : Ok f env st fun ds st1 => ∃ xs ys, ds = [.tup xs, .tup ys] ∧ Q (srcZ xs ys) st1) : Ok (fOverZ f) env st Q := by
  unfold fOverZ
  rw [Ok_bnd]
  refine h.mono fun d s q => ?_
  obtain ⟨xs, ys, rfl, q⟩ := q
  exact ⟨_, _, rfl, q⟩
theorem rg_get (n i : Nat) : ((List.range n).map fun i => D.int (i : Nat))[i]? = if i < n then some (.int (i : Nat)) else none := by
  rw [List.getElem?_map]
  by_cases h : i < n
  · rw [List.getElem?_range h, if_pos h]
    rfl
  · rw [if_neg h, List.getElem?_eq_none (by simpa using h)]
    rfl
theorem srcR_eq {s : Sto} {n i : Nat} : srcR 0 n s i = some ((List.range n).map fun i => D.int (i : Nat))[i]? := by
  unfold srcR
  rw [rg_get]
  by_cases h : i < n
  · rw [if_pos h, if_pos h]
    simp
  · rw [if_neg h, if_neg h]
end
/-! ### the draw's begin -/
theorem begun_ok {st : Sto} {ns : List Int} (h : ns.length ≤ 63) : Wd dr_begun [.lcon (ns.map D.int)] st fun r st' => ∃ p w c, r = .loc p ∧ Drw st' p w c 0 ∧ Pre st st' ∧ st.length ≤ p ∧ st.length ≤ w ∧ st.length ≤ c := by
  refine Wd_of ?_
  show Ws _ [some (.lcon (ns.map D.int)), none, none] _ _
  unfold fr_begun
  rw [Ws_seq]
  refine Ws_set (Ok_lcP (Ok_overL ?_))
  simp only [Ok_var0]
  have int_of : ∀ {d : D}, d ∈ ns.map D.int → ∃ i, d = .int i := fun {d} hd => by
    obtain ⟨i, _, rfl⟩ := List.mem_map.mp hd
    exact ⟨i, rfl⟩
  refine ⟨ns.map D.int, by simp [seqL], ns.map D.int, fun d => match d with
      | .int i => decide ((10 : Int) ^ 18 ≤ if i < 0 then -i else i)
      | _ => false, fun d => match d with
      | .int i => .int ((if i < 0 then -i else i) - (10 : Int) ^ 18)
      | d => d, lt_loop (by simp; omega), by simp; omega, fun s i _ => rfl, fun d s hd ps => ?_, fun s ps hs => ?_⟩
  · obtain ⟨i, rfl⟩ := int_of hd
    refine ⟨[some (.lcon (ns.map D.int)), none, some (.int i)], rfl, ?_⟩
    simp only [Ok_bnd, Ok_fB, Ok_fArgs, Ok_fCons, Ok_fNil, Ok_varS, Ok_var0, Ok_ret, Wo_abs, Wo_pow, Wo_ge, Wo_sub, Ok_asB, D.bl.injEq, exists_eq_left']
    exact ⟨⟨by decide, by decide, by decide⟩, rfl, Pre.refl _, fun _ => ⟨⟨by decide, by decide, by decide⟩, rfl, Pre.refl _⟩⟩
  · obtain ⟨ws, hws, hwl⟩ : ∃ ws : List Int, s[st.length]? = some (.lst (ws.map D.int)) ∧ ws.length ≤ 63 := by
      refine ⟨(ns.filter fun i => decide ((10 : Int) ^ 18 ≤ if i < 0 then -i else i)).map fun i => (if i < 0 then -i else i) - (10 : Int) ^ 18, ?_, ?_⟩
      · rw [hs, List.filter_map, List.map_map, List.map_map]
        rfl
      · rw [List.length_map]
        exact Nat.le_trans (List.length_filter_le _ _) h
    rw [thenS_nx]
    show Ws _ [some (.lcon (ns.map D.int)), some (.loc st.length), none] s _
    refine Ws_ret ?_
    simp only [Ok_fDisp, Ok_fPair, Ok_fPairNil, Ok_ret, Ok_varS, Ok_var0]
    refine Ok_lcP (Ok_overL ?_)
    simp only [Ok_var0]
    refine ⟨ns.map D.int, by simp [seqL], ns.map D.int, fun _ => true, fun d => match d with
      | .int i => .int ((if i < 0 then -i else i) % 2147483629)
      | d => d, lt_loop (by simp; omega), by simp; omega, fun s i _ => rfl, fun d s hd ps => ?_, fun s2 ps2 hs2 => ?_⟩
    · obtain ⟨i, rfl⟩ := int_of hd
      refine ⟨[some (.lcon (ns.map D.int)), some (.loc st.length), some (.int i)], rfl, ?_⟩
      simp only [Ok_fB, Ok_fArgs, Ok_fCons, Ok_fNil, Ok_varS, Ok_var0, Ok_ret, Wo_abs, Wo_int1, Wo_mod]
      exact ⟨trivial, Pre.refl _, fun _ => ⟨by decide, trivial, Pre.refl _⟩⟩
    · obtain ⟨cs, hcs, hcl⟩ : ∃ cs : List Int, s2[(s ++ [O.dK []]).length]? = some (.lst (cs.map D.int)) ∧ cs.length ≤ 63 := by
        refine ⟨ns.map fun i => (if i < 0 then -i else i) % 2147483629, ?_, by simpa using h⟩
        rw [hs2, filter_all, List.map_map, List.map_map]
        rfl
      have hp2 : s2[s.length]? = some (.dK []) := ps2.get app_new
      have sl : st.length < s.length := (List.getElem?_eq_some_iff.mp hws).1
      have l2 := ps2.len
      simp at l2 hcs
      refine ⟨hp2, _, rfl, Nat.le_of_ble_eq_true rfl, s.length, st.length, s.length + 1, rfl, ⟨0, 0, ws, cs, ?_, ?_, ?_, by omega, by omega, by omega, by omega, by omega, hwl, hcl⟩, ?_, by omega, by omega, by omega⟩
      · have := List.getElem?_set_self (l := s2) (i := s.length) (a := O.dK (dkv st.length (s.length + 1) 0 0)) (by omega)
        rw [show (s ++ [O.dK []]).length = s.length + 1 by simp]
        exact this
      · rw [List.getElem?_set_ne (by omega)]
        exact ps2.get (app_get hws)
      · rw [List.getElem?_set_ne (by omega)]
        exact hcs
      · exact (ps.trans ((Pre.app _ _).trans ps2)).setNew (by omega)
end S3

set_option maxHeartbeats 4000000
/-! S4F: more single operations. -/
namespace S3
open PySem PyProof.Rows L2
section
variable {st : Sto} {x : D} {ds : List D} {Q : D → Sto → Prop}
theorem cut_take {α : Type} (xs : List α) (k : Nat) : cut3 xs none (some (k : Int)) = xs.take k := by
  unfold cut3
  rw [HT.sIx_none, HT.sIx_nat]
  simp only [List.drop_zero, Nat.sub_zero]
  rcases Nat.le_total k xs.length with h | h
  · rw [Nat.min_eq_left h]
  · rw [Nat.min_eq_right h, List.take_of_length_le (Nat.le_refl _), List.take_of_length_le h]
theorem cut_drop {α : Type} (xs : List α) (k : Nat) : cut3 xs (some (k : Int)) none = xs.drop k := by
  unfold cut3
  rw [HT.sIx_none, HT.sIx_nat]
  rcases Nat.le_total k xs.length with h | h
  · rw [Nat.min_eq_left h, List.take_of_length_le (by simp)]
  · rw [Nat.min_eq_right h]
    simp [List.drop_of_length_le h]
theorem Wo_slL {n : Nat} {lo hi : Option Int} (h : st[n]? = some (.lst ds)) : Wo oSl (.loc n, lo, hi) st Q ↔ Q (.loc st.length) (st ++ [.lst (cut3 ds lo hi)]) := Wo_iff (by
  unfold oSl
  dsimp only
  rw [seqL_loc h])
theorem Wo_slT {lo hi : Option Int} : Wo oSl (.tup ds, lo, hi) st Q ↔ Q (.tup (cut3 ds lo hi)) st := Wo_iff rfl
theorem Wo_tupleL {n : Nat} (h : st[n]? = some (.lst ds)) : Wo oTuple [.loc n] st Q ↔ Q (.tup ds) st := Wo_iff (by
  unfold oTuple
  dsimp only
  rw [seqL_loc h])
theorem Wo_listA (h : seqA st x = some ds) : Wo oList [x] st Q ↔ Q (.loc st.length) (st ++ [.lst ds]) := Wo_iff (by
  unfold oList
  simp [h])
@[simp] theorem Wo_min2 {i j : Int} : Wo oMin [.int i, .int j] st Q ↔ Q (.int (if j < i then j else i)) st := Wo_iff rfl
theorem Wo_isi {a T : String} {b : Bool} (h1 : tyD st x = some a) (h2 : kitB a T = some b) : Wo oIsi [x, .ty T] st Q ↔ Q (.bl b) st := Wo_iff (by
  unfold oIsi
  simp [h1, h2])
theorem blsOf_map : ∀ bs : List Bool, blsOf (bs.map D.bl) = some bs
  | [] => rfl
  | b :: bs => by
    show blsOf (.bl b :: bs.map D.bl) = _
    unfold blsOf
    rw [blsOf_map bs]
theorem intsOf_map : ∀ is : List Int, intsOf (is.map D.int) = some is
  | [] => rfl
  | b :: bs => by
    show intsOf (.int b :: bs.map D.int) = _
    unfold intsOf
    rw [intsOf_map bs]
theorem Wo_all {n : Nat} {bs : List Bool} (h : st[n]? = some (.lst (bs.map D.bl))) : Wo oAll [.loc n] st Q ↔ Q (.bl (bs.all id)) st := Wo_iff (by
  unfold oAll
  dsimp only
  rw [seqL_loc h]
  dsimp only
  rw [blsOf_map])
theorem Wo_rgL {j : Nat} (h : j ≤ 1000000) : Wo oRgL (.int (j : Nat)) st Q ↔ Q (.loc st.length) (st ++ [.lst ((List.range j).map fun i => .int (i : Nat))]) := Wo_iff (by
  unfold oRgL
  dsimp only
  rw [if_pos (by omega)]
  simp)
theorem Wo_lenSet {ns : List Int} (h : ns.length ≤ 4000) : Wo oLenSet (.tup (ns.map D.int)) st Q ↔ Q (.int (nubI ns).length) st := Wo_iff (by
  unfold oLenSet
  simp [seqT, intsOf_map, h])
theorem Wo_addL {n m : Nat} {es : List D} (h : st[n]? = some (.lst ds)) (h2 : st[m]? = some (.lst es)) (hl : ds.length + es.length ≤ 1000000) : Wo oAdd (.loc n, .loc m) st Q ↔ Q (.loc st.length) (st ++ [.lst (ds ++ es)]) := Wo_iff (by
  have e1 : ownL st (.loc n) = some (n, ds) := by simp [ownL, h]
  have e2 : ownL st (.loc m) = some (m, es) := by simp [ownL, h2]
  unfold oAdd
  simp only [e1, e2]
  rw [if_pos (small_sz hl)])
theorem rgI (n : Nat) : ((List.range n).map fun i => D.int (i : Nat)) = ((List.range n).map fun i => ((i : Nat) : Int)).map D.int := by simp
theorem rg_mem {n : Nat} {k : Int} : k ∈ ((List.range n).map fun i => ((i : Nat) : Int)) ↔ 0 ≤ k ∧ k < n := by
  rw [List.mem_map]
  constructor
  · rintro ⟨i, hi, rfl⟩
    have := List.mem_range.mp hi
    omega
  · rintro ⟨h0, h1⟩
    exact ⟨k.toNat, List.mem_range.mpr (by omega), by omega⟩
theorem rg_nodup (n : Nat) : ((List.range n).map fun i => ((i : Nat) : Int)).Nodup := by
  rw [List.nodup_iff_pairwise_ne, List.pairwise_map]
  exact List.nodup_range.imp fun h z => h (by omega)
theorem rg_len (n : Nat) : ((List.range n).map fun i => ((i : Nat) : Int)).length = n := by simp
end
end S3

set_option maxHeartbeats 4000000
/-! S4G: values of known kinds. -/
namespace S3
open PySem PyProof.Rows L2
/-- a value of a known kind, looked at from outside -/
inductive Td (st : Sto) : D → Prop
  | non : Td st .non
  | bl (b : Bool) : Td st (.bl b)
  | int (i : Int) : Td st (.int i)
  | str (x : Str) : Td st (.str x)
  | tup (ds : List D) : Td st (.tup ds)
  | lst {n : Nat} {ds : List D} : st[n]? = some (.lst ds) → Td st (.loc n)
theorem Td.pre {st st' : Sto} {x : D} (h : Td st x) (p : Pre st st') : Td st' x := by
  cases h with
  | non => exact .non
  | bl b => exact .bl b
  | int i => exact .int i
  | str x => exact .str x
  | tup ds => exact .tup ds
  | lst e => exact .lst (p.get e)
def isIntD : D → Bool
  | .int _ => true
  | .bl _ => true
  | _ => false
def isBlD : D → Bool
  | .bl _ => true
  | _ => false
def isStrD : D → Bool
  | .str _ => true
  | _ => false
def isTupD : D → Bool
  | .tup _ => true
  | _ => false
section
variable {st : Sto} {x : D} {Q : D → Sto → Prop}
theorem Wo_isInt (h : Td st x) : Wo oIsi [x, .ty "int"] st Q ↔ Q (.bl (isIntD x)) st := by
  cases h with
  | lst e => exact Wo_isi (a := "list") (by simp [tyD, e]) (by kernel_rfl)
  | _ => exact Wo_isi rfl (by kernel_rfl)
theorem Wo_isBl (h : Td st x) : Wo oIsi [x, .ty "bool"] st Q ↔ Q (.bl (isBlD x)) st := by
  cases h with
  | lst e => exact Wo_isi (a := "list") (by simp [tyD, e]) (by kernel_rfl)
  | _ => exact Wo_isi rfl (by kernel_rfl)
theorem Wo_isStr (h : Td st x) : Wo oIsi [x, .ty "str"] st Q ↔ Q (.bl (isStrD x)) st := by
  cases h with
  | lst e => exact Wo_isi (a := "list") (by simp [tyD, e]) (by kernel_rfl)
  | _ => exact Wo_isi rfl (by kernel_rfl)
theorem Wo_isTup (h : Td st x) : Wo oIsi [x, .ty "tuple"] st Q ↔ Q (.bl (isTupD x)) st := by
  cases h with
  | lst e => exact Wo_isi (a := "list") (by simp [tyD, e]) (by kernel_rfl)
  | _ => exact Wo_isi rfl (by kernel_rfl)
theorem Wo_neStr {a b : Str} (ha : PyData.strOk a = true) (hb : PyData.strOk b = true) : Wo oNe (.str a, .str b) st Q ↔ Q (.bl (!(a == b))) st := Wo_iff (by
  simp [oNe, dat64, dat, SeqAt.shaped, PyData.canLay0, PyData.depth, ha, hb]
  rfl)
def isNum (x : D) (e : Int) : Bool := match x with
  | .int i => decide (0 ≤ i) && decide (i < e)
  | _ => false
end
end S3

set_option maxHeartbeats 4000000
/-! S4H: expressions that write nothing, whatever is laid beside. -/
namespace S3
open PySem PyProof.Rows L2
def Pv (f : F3 D) (env : Env3) (st : Sto) (d : D) : Prop := ∀ s, Pre st s → Ok f env s fun x s' => x = d ∧ Pre s s'
def PvB (f : F3 Bool) (env : Env3) (st : Sto) (b : Bool) : Prop := ∀ s, Pre st s → Ok f env s fun x s' => x = b ∧ Pre s s'
def PvA (f : F3 (List D)) (env : Env3) (st : Sto) (ds : List D) : Prop := ∀ s, Pre st s → Ok f env s fun x s' => x = ds ∧ Pre s s'
def PvO {α : Type} (o : F1 α D) (a : α) (st : Sto) (d : D) : Prop := ∀ s, Pre st s → Wo o a s fun x s' => x = d ∧ Pre s s'
section
variable {env : Env3} {st : Sto} {fa fb fc : F3 D} {fr : F3 (List D)} {f g : F3 Bool} {x y z d : D} {ds : List D} {B C : Bool}
theorem Pv.pre {st' : Sto} (h : Pv fa env st x) (p : Pre st st') : Pv fa env st' x := fun s q => h s (p.trans q)
theorem PvB.pre {st' : Sto} (h : PvB f env st B) (p : Pre st st') : PvB f env st' B := fun s q => h s (p.trans q)
theorem pv_ret : Pv (ret3 d) env st d := fun s p => Ok_ret.mpr ⟨rfl, Pre.refl s⟩
theorem pv_var {i : Nat} (h : env[i]? = some (some d)) : Pv (fVar i) env st d := fun s p => (Ok_var h).mpr ⟨rfl, Pre.refl s⟩
theorem pv_B {o : F1 (D × D) D} (ha : Pv fa env st x) (hb : Pv fb env st y) (ho : PvO o (x, y) st d) : Pv (fB o fa fb) env st d := fun s p => by
  rw [Ok_fB]
  refine (ha s p).mono fun a s1 h1 => ?_
  obtain ⟨rfl, p1⟩ := h1
  refine (hb s1 (p.trans p1)).mono fun b s2 h2 => ?_
  obtain ⟨rfl, p2⟩ := h2
  obtain ⟨c, s3, e, rfl, p3⟩ := ho s2 ((p.trans p1).trans p2)
  exact ⟨_, s3, e, rfl, (p1.trans p2).trans p3⟩
theorem pv_U {o : F1 D D} (ha : Pv fa env st x) (ho : PvO o x st d) : Pv (fU o fa) env st d := fun s p => by
  rw [Ok_fU]
  refine (ha s p).mono fun a s1 h1 => ?_
  obtain ⟨rfl, p1⟩ := h1
  obtain ⟨c, s3, e, rfl, p3⟩ := ho s1 (p.trans p1)
  exact ⟨_, s3, e, rfl, p1.trans p3⟩
theorem pv_A {o : F1 (List D) D} (ha : PvA fr env st ds) (ho : PvO o ds st d) : Pv (fArgs o fr) env st d := fun s p => by
  rw [Ok_fArgs]
  refine (ha s p).mono fun a s1 h1 => ?_
  obtain ⟨rfl, p1⟩ := h1
  obtain ⟨c, s3, e, rfl, p3⟩ := ho s1 (p.trans p1)
  exact ⟨_, s3, e, rfl, p1.trans p3⟩
theorem pv_nil : PvA fNil env st [] := fun s p => Ok_fNil.mpr ⟨rfl, Pre.refl s⟩
theorem pv_cons (ha : Pv fa env st x) (hr : PvA fr env st ds) : PvA (fCons fa fr) env st (x :: ds) := fun s p => by
  rw [Ok_fCons]
  refine (ha s p).mono fun a s1 h1 => ?_
  obtain ⟨rfl, p1⟩ := h1
  refine (hr s1 (p.trans p1)).mono fun b s2 h2 => ?_
  obtain ⟨rfl, p2⟩ := h2
  exact ⟨rfl, p1.trans p2⟩
theorem pv_call {n : Nat} {dd : FD} (ha : PvA fr env st ds) (hn : ds.length = n) (hd : ∀ s, Pre st s → Wd dd ds s fun r s' => r = d ∧ Pre s s') : Pv (fCall n dd fr) env st d := fun s p => by
  rw [Ok_fCall]
  refine (ha s p).mono fun a s1 h1 => ?_
  obtain ⟨rfl, p1⟩ := h1
  refine ⟨hn, (hd s1 (p.trans p1)).mono fun r s2 h2 => ?_⟩
  exact ⟨h2.1, p1.trans h2.2⟩
theorem pv_asB (h : Pv fa env st (.bl B)) : PvB (bnd fa asB) env st B := fun s p => by
  rw [Ok_bnd]
  refine (h s p).mono fun a s1 h1 => ?_
  obtain ⟨rfl, p1⟩ := h1
  exact Ok_asB.mpr ⟨B, rfl, rfl, p1⟩
theorem pv_not (h : PvB f env st B) : PvB (fNot f) env st (!B) := fun s p => by
  rw [Ok_fNot]
  refine (h s p).mono fun a s1 h1 => ?_
  obtain ⟨rfl, p1⟩ := h1
  exact ⟨rfl, p1⟩
theorem pv_or (h : PvB f env st B) (k : B = false → PvB g env st C) : PvB (fOr f g) env st (B || C) := fun s p => by
  rw [Ok_fOr]
  refine (h s p).mono fun a s1 h1 => ?_
  obtain ⟨rfl, p1⟩ := h1
  cases a with
  | true => exact (if_pos rfl).mpr ⟨rfl, p1⟩
  | false =>
    rw [if_neg (by simp)]
    exact (k rfl s1 (p.trans p1)).mono fun b s2 h2 => ⟨by rw [h2.1]; rfl, p1.trans h2.2⟩
theorem pv_and (h : PvB f env st B) (k : B = true → PvB g env st C) : PvB (fAnd f g) env st (B && C) := fun s p => by
  rw [Ok_fAnd]
  refine (h s p).mono fun a s1 h1 => ?_
  obtain ⟨rfl, p1⟩ := h1
  cases a with
  | false => exact (if_neg (by simp)).mpr ⟨rfl, p1⟩
  | true =>
    rw [if_pos rfl]
    exact (k rfl s1 (p.trans p1)).mono fun b s2 h2 => ⟨by rw [h2.1]; rfl, p1.trans h2.2⟩
theorem pv_andV (h : Pv fa env st (.bl B)) (k : B = true → Pv fb env st (.bl C)) : Pv (fAndV fa fb) env st (.bl (B && C)) := fun s p => by
  rw [Ok_fAndV]
  refine (h s p).mono fun a s1 h1 => ?_
  obtain ⟨rfl, p1⟩ := h1
  refine ⟨B, rfl, ?_⟩
  cases B with
  | false => exact (if_neg (by simp)).mpr ⟨rfl, p1⟩
  | true =>
    rw [if_pos rfl]
    exact (k rfl s1 (p.trans p1)).mono fun b s2 h2 => ⟨by rw [h2.1]; rfl, p1.trans h2.2⟩
theorem pv_orV (h : Pv fa env st (.bl B)) (k : B = false → Pv fb env st (.bl C)) : Pv (fOrV fa fb) env st (.bl (B || C)) := fun s p => by
  rw [Ok_fOrV]
  refine (h s p).mono fun a s1 h1 => ?_
  obtain ⟨rfl, p1⟩ := h1
  refine ⟨B, rfl, ?_⟩
  cases B with
  | true => exact (if_pos rfl).mpr ⟨rfl, p1⟩
  | false =>
    rw [if_neg (by simp)]
    exact (k rfl s1 (p.trans p1)).mono fun b s2 h2 => ⟨by rw [h2.1]; rfl, p1.trans h2.2⟩
theorem pv_notV (h : Pv fa env st (.bl B)) : Pv (fNotV fa) env st (.bl (!B)) := fun s p => by
  rw [Ok_fNotV]
  refine (h s p).mono fun a s1 h1 => ?_
  obtain ⟨rfl, p1⟩ := h1
  exact ⟨B, rfl, rfl, p1⟩
theorem pv_chain {o1 o2 : F1 (D × D) D} (ha : Pv fa env st x) (hb : Pv fb env st y) (h1 : PvO o1 (x, y) st (.bl B)) (hc : B = true → Pv fc env st z) (h2 : B = true → PvO o2 (y, z) st (.bl C)) : Pv (fChain o1 o2 fa fb fc) env st (.bl (B && C)) := fun s p => by
  rw [Ok_fChain]
  refine (ha s p).mono fun a s1 k1 => ?_
  obtain ⟨rfl, p1⟩ := k1
  refine (hb s1 (p.trans p1)).mono fun b s2 k2 => ?_
  obtain ⟨rfl, p2⟩ := k2
  obtain ⟨c, s3, e, rfl, p3⟩ := h1 s2 ((p.trans p1).trans p2)
  refine ⟨_, s3, e, B, rfl, ?_⟩
  have p03 := (p1.trans p2).trans p3
  cases B with
  | false => exact (if_neg (by simp)).mpr ⟨rfl, p03⟩
  | true =>
    rw [if_pos rfl]
    refine (hc rfl s3 (p.trans p03)).mono fun w s4 k4 => ?_
    obtain ⟨rfl, p4⟩ := k4
    obtain ⟨c, s5, e5, rfl, p5⟩ := h2 rfl s4 ((p.trans p03).trans p4)
    exact ⟨_, s5, e5, rfl, (p03.trans p4).trans p5⟩
theorem pv_if (h : PvB f env st B) (ht : B = true → Pv fa env st d) (hf : B = false → Pv fb env st d) : Pv (fIf f fa fb) env st d := fun s p => by
  rw [Ok_fIf]
  refine (h s p).mono fun a s1 h1 => ?_
  obtain ⟨rfl, p1⟩ := h1
  cases a with
  | true => exact (if_pos rfl).mpr ((ht rfl s1 (p.trans p1)).mono fun b s2 h2 => ⟨h2.1, p1.trans h2.2⟩)
  | false => exact (if_neg (by simp)).mpr ((hf rfl s1 (p.trans p1)).mono fun b s2 h2 => ⟨h2.1, p1.trans h2.2⟩)
/-- where the operation lays nothing -/
theorem pvo {α : Type} {o : F1 α D} {a : α} (h : ∀ s, Pre st s → o a s = some (d, s)) : PvO o a st d := fun s p => ⟨d, s, h s p, rfl, Pre.refl s⟩
theorem pvo_iff {α : Type} {o : F1 α D} {a : α} (h : ∀ (s : Sto) (Q : D → Sto → Prop), Pre st s → (Wo o a s Q ↔ Q d s)) : PvO o a st d := fun s p => (h s _ p).mpr ⟨rfl, Pre.refl s⟩
/-! statements -/
variable {f1 f2 : FS} {Q : Fl → Env3 → Sto → Prop}
theorem ws_if (h : PvB f env st B) (k : ∀ s, Pre st s → if B = true then Ws f1 env s Q else Ws f2 env s Q) : Ws (fIfS f f1 f2) env st Q := Ws_if ((h st (Pre.refl st)).mono fun b s hb => by
  obtain ⟨rfl, p⟩ := hb
  exact k s p)
theorem ws_ret (h : Pv fa env st d) (k : ∀ s, Pre st s → Q (.rt d) env s) : Ws (fRet fa) env st Q := Ws_ret ((h st (Pre.refl st)).mono fun b s hb => by
  obtain ⟨rfl, p⟩ := hb
  exact k s p)
theorem ws_set {i : Nat} (h : Pv fa env st d) (k : ∀ s, Pre st s → Q .nx (env.set i (some d)) s) : Ws (fAsg fa (gVar i)) env st Q := Ws_set ((h st (Pre.refl st)).mono fun b s hb => by
  obtain ⟨rfl, p⟩ := hb
  exact k s p)
theorem ws_seq_if {f3 : FS} (h : PvB f env st B) (k : ∀ s, Pre st s → if B = true then Ws f1 env s (thenS f3 Q) else Ws f2 env s (thenS f3 Q)) : Ws (fSeq (fIfS f f1 f2) f3) env st Q := Ws_seq.mpr (ws_if h k)
/-- if c: return d; then on -/
theorem ws_guard {f3 : FS} {d2 : D} (h : PvB f env st B) (h2 : B = true → ∀ s, Pre st s → Q (.rt d2) env s) (k : B = false → ∀ s, Pre st s → Ws f3 env s Q) : Ws (fSeq (fIfS f (fRet (ret3 d2)) fNop) f3) env st Q := ws_seq_if h fun s p => by
  cases B with
  | true => exact (if_pos rfl).mpr (Ws_ret (Ok_ret.mpr (h2 rfl s p)))
  | false => exact (if_neg (by simp)).mpr (Ws_nop.mpr (k rfl s p))
/-- all(..) over a tuple -/
theorem pv_allT {n : Nat} {vs : List Nat} {i : Nat} {fe : F3 D} {items : List D} {G : D → Bool} (ha : Pv fa env st (.tup items)) (hn : items.length < 1000000) (hN : items.length < n)
    (he : ∀ d, d ∈ items → Pv fe ((wipeE env vs).set i (some d)) st (.bl (G d))) : Pv (fArgs oAll (fCons (fLc n vs (fOverT fa) (gVar i) (ret3 true) fe) fNil)) env st (.bl (items.all G)) := fun s p => by
  rw [Ok_fArgs, Ok_fCons]
  refine Ok_lcP (Ok_overT ((ha s p).mono fun a s1 h1 => ?_))
  obtain ⟨rfl, p1⟩ := h1
  refine ⟨items, rfl, items, fun _ => true, fun d => .bl (G d), hN, hn, fun s i _ => rfl, fun d s2 hd p2 => ⟨_, rfl, Ok_ret.mpr ⟨rfl, Pre.refl _, fun _ => he d hd s2 ((p.trans p1).trans p2)⟩⟩, fun s2 p2 hs => ?_⟩
  rw [Ok_fNil]
  rw [filter_all, show items.map (fun d => D.bl (G d)) = (items.map G).map D.bl by simp] at hs
  rw [Wo_all hs]
  refine ⟨?_, p1.trans p2⟩
  rw [List.all_map]
  rfl
end
end S3

set_option maxHeartbeats 4000000
namespace L_k09
open PySem PySem.Spec PyProof.Rows L2 S3
/-- which class lies under which: 0 BoughError, 1 BadAims, 2 BadGame, 3 BadSide -/
def clsNo (i : Nat) : Nat := if i < 4 then i else 0
def tab (i j : Nat) : Bool := (([[true, false, false, false], [true, true, false, false], [true, false, true, false], [true, false, false, true]] : List (List Bool)).getD (clsNo i) []).getD (clsNo j) false
/-- back_of: 0 rows, 1 row, 2 found, 3 at, 4 goal -/
def f_p_back_of : FS := (fSeq (fAsg (fLc loopN [1] (fOverT (fVar 0)) (gVar 1) (ret3 true) (fArgs oLst fNil)) (gVar 2))
    (fSeq (fFor loopN (fOverET (fCons (fVar 0) fNil)) (gTup3 2 (gCons3 (gVar 3) (gCons3 (gVar 1) gNil3)))
    (fFor loopN (fOverT (fB oIx (fVar 1) (ret3 (.int 2)))) (gVar 4)
    (fDrop (fMeth oApp (fB oIx (fVar 2) (fVar 4)) (fCons (fVar 3) fNil)))))
    (fRet (fVar 2))))
def d_p_back_of : FD := fdOf 5 f_p_back_of
/-- is_number: 0 thing, 1 end -/
def f_p_is_number : FS := (fRet (fAndV (fArgs oIsi (fCons (fVar 0) (fCons (ret3 (.ty "int")) fNil))) (fAndV (fNotV (fArgs oIsi (fCons (fVar 0) (fCons (ret3 (.ty "bool")) fNil)))) (fChain oLe oLt (ret3 (.int 0)) (fVar 0) (fVar 1)))))
def d_p_is_number : FD := fdOf 2 f_p_is_number
/-- is_row: 0 thing, 1 many, 2 goal -/
def f_p_is_row : FS := (fSeq (fIfS (fOr (fNot (bnd (fArgs oIsi (fCons (fVar 0) (fCons (ret3 (.ty "tuple")) fNil))) asB)) (fOr (bnd (fB oNe (fArgs oLen (fCons (fVar 0) fNil)) (ret3 (.int 3))) asB) (fNot (bnd (fCall 2 d_p_is_number (fCons (fB oIx (fVar 0) (ret3 (.int 0))) (fCons (ret3 (.int 2)) fNil))) asB))))
    (fRet (ret3 (.bl false)))
    fNop)
    (fSeq (fIfS (fOr (fNot (bnd (fCall 2 d_p_is_number (fCons (fB oIx (fVar 0) (ret3 (.int 1))) (fCons (fB oAdd (ret3 (.int 301)) (ret3 (.int 1))) fNil))) asB)) (fNot (bnd (fArgs oIsi (fCons (fB oIx (fVar 0) (ret3 (.int 2))) (fCons (ret3 (.ty "tuple")) fNil))) asB)))
    (fRet (ret3 (.bl false)))
    fNop)
    (fSeq (fIfS (fOr (fNot (bnd (fChain oLe oLe (ret3 (.int 1)) (fArgs oLen (fCons (fB oIx (fVar 0) (ret3 (.int 2))) fNil)) (ret3 (.int 4000))) asB)) (fNot (bnd (fArgs oAll (fCons (fLc loopN [2] (fOverT (fB oIx (fVar 0) (ret3 (.int 2)))) (gVar 2) (ret3 true) (fCall 2 d_p_is_number (fCons (fVar 2) (fCons (fVar 1) fNil)))) fNil)) asB)))
    (fRet (ret3 (.bl false)))
    fNop)
    (fRet (fB oEq (fU oLenSet (fB oIx (fVar 0) (ret3 (.int 2)))) (fArgs oLen (fCons (fB oIx (fVar 0) (ret3 (.int 2))) fNil)))))))
def d_p_is_row : FD := fdOf 3 f_p_is_row
/-- is_game: 0 thing, 1 row -/
def f_p_is_game : FS := (fSeq (fIfS (fOr (fNot (bnd (fArgs oIsi (fCons (fVar 0) (fCons (ret3 (.ty "tuple")) fNil))) asB)) (fOr (bnd (fB oNe (fArgs oLen (fCons (fVar 0) fNil)) (ret3 (.int 2))) asB) (fOr (fNot (bnd (fArgs oIsi (fCons (fB oIx (fVar 0) (ret3 (.int 0))) (fCons (ret3 (.ty "str")) fNil))) asB)) (bnd (fB oNe (fB oIx (fVar 0) (ret3 (.int 0))) (ret3 (.str "game"))) asB))))
    (fRet (ret3 (.bl false)))
    fNop)
    (fSeq (fIfS (fOr (fNot (bnd (fArgs oIsi (fCons (fB oIx (fVar 0) (ret3 (.int 1))) (fCons (ret3 (.ty "tuple")) fNil))) asB)) (fNot (bnd (fChain oLe oLe (ret3 (.int 1)) (fArgs oLen (fCons (fB oIx (fVar 0) (ret3 (.int 1))) fNil)) (ret3 (.int 20000))) asB)))
    (fRet (ret3 (.bl false)))
    fNop)
    (fRet (fArgs oAll (fCons (fLc loopN [1] (fOverT (fB oIx (fVar 0) (ret3 (.int 1)))) (gVar 1) (ret3 true) (fCall 2 d_p_is_row (fCons (fVar 1) (fCons (fArgs oLen (fCons (fB oIx (fVar 0) (ret3 (.int 1))) fNil)) fNil)))) fNil)))))
def d_p_is_game : FD := fdOf 2 f_p_is_game
/-- need_game: 0 game -/
def f_p_need_game : FS := (fIfS (fNot (bnd (fCall 1 d_p_is_game (fCons (fVar 0) fNil)) asB))
    (fun env st => some (.er 2, env, st))
    fNop)
def d_p_need_game : FD := fdOf 1 f_p_need_game
/-- need_side: 0 side -/
def f_p_need_side : FS := (fIfS (fNot (bnd (fCall 2 d_p_is_number (fCons (fVar 0) (fCons (ret3 (.int 2)) fNil))) asB))
    (fun env st => some (.er 3, env, st))
    fNop)
def d_p_need_side : FD := fdOf 1 f_p_need_side
/-- are_aims: 0 thing, 1 many, 2 one, 3 other, 4 row -/
def f_p_are_aims : FS := (fSeq (fIfS (fOr (fNot (bnd (fArgs oIsi (fCons (fVar 0) (fCons (ret3 (.ty "tuple")) fNil))) asB)) (fNot (bnd (fArgs oAll (fCons (fLc loopN [4] (fOverT (fVar 0)) (gVar 4) (ret3 true) (fCall 2 d_p_is_number (fCons (fVar 4) (fCons (fVar 1) fNil)))) fNil)) asB)))
    (fRet (ret3 (.bl false)))
    fNop)
    (fRet (fArgs oAll (fCons (fLc loopN [2, 3] (fOverZ (fCons (fVar 0) (fCons (fSl (fVar 0) (bnd (ret3 (.int 1)) asI) (ret3 none)) fNil))) (gTup3 2 (gCons3 (gVar 2) (gCons3 (gVar 3) gNil3))) (ret3 true) (fB oLt (fVar 2) (fVar 3))) fNil))))
def d_p_are_aims : FD := fdOf 5 f_p_are_aims
/-- drawn: 0 game, 1 side, 2 aims, 3 rows, 4 row, 5 back, 6 steps, 7 left, 8 line, 9 done, 10 goal, 11 own, 12 rank, 13 goals -/
def f_p_drawn : FS := (fSeq (fDrop (fCall 1 d_p_need_game (fCons (fVar 0) fNil)))
    (fSeq (fDrop (fCall 1 d_p_need_side (fCons (fVar 1) fNil)))
    (fSeq (fAsg (fB oIx (fVar 0) (ret3 (.int 1))) (gVar 3))
    (fSeq (fIfS (fNot (bnd (fCall 2 d_p_are_aims (fCons (fVar 2) (fCons (fArgs oLen (fCons (fVar 3) fNil)) fNil))) asB))
    (fun env st => some (.er 1, env, st))
    fNop)
    (fSeq (fAsg (fArgs oTup (fCons (fCall 1 d_p_back_of (fCons (fVar 3) fNil)) (fCons (fDc loopN [4] (fOverT (fVar 2)) (gVar 4) (ret3 true) (fVar 4) (ret3 (.int 0))) fNil))) (gTup3 2 (gCons3 (gVar 5) (gCons3 (gVar 6) gNil3))))
    (fSeq (fAsg (fLc loopN [11, 12, 13] (fOverT (fVar 3)) (gTup3 3 (gCons3 (gVar 11) (gCons3 (gVar 12) (gCons3 (gVar 13) gNil3)))) (ret3 true) (fArgs oLen (fCons (fVar 13) fNil))) (gVar 7))
    (fSeq (fPar [8, 9] (fCons (fArgs oList (fCons (fVar 2) fNil)) (fCons (ret3 (.int 0)) fNil)))
    (fSeq (fWhile (bnd (fB oLt (fVar 9) (fArgs oLen (fCons (fVar 8) fNil))) asB)
    (fSeq (fAsg (fB oIx (fVar 8) (fVar 9)) (gVar 10))
    (fSeq (fAug (fun i j => i + j) 9 (ret3 (.int 1)))
    (fFor loopN (fOverL (fB oIx (fVar 5) (fVar 10))) (gVar 4)
    (fSeq (fAugS (fun i j => i - j) (fVar 7) (fVar 4) (ret3 (.int 1)))
    (fIfS (fAnd (bnd (fB (oDin true) (fVar 4) (fVar 6)) asB) (fOr (bnd (fB oEq (fB oIx (fB oIx (fVar 3) (fVar 4)) (ret3 (.int 0))) (fVar 1)) asB) (bnd (fB oEq (fB oIx (fVar 7) (fVar 4)) (ret3 (.int 0))) asB)))
    (fSeq (fAsg (fB oAdd (fB oDget (fVar 6) (fVar 10)) (ret3 (.int 1))) (gSub3 (fVar 6) (fVar 4)))
    (fDrop (fMeth oApp (fVar 8) (fCons (fVar 4) fNil))))
    fNop))))) loopN)
    (fRet (fArgs oTuple (fCons (fLc loopN [4] (fOverR (fCons (fArgs oLen (fCons (fVar 3) fNil)) fNil)) (gVar 4) (ret3 true) (fDget1 (fVar 6) (fVar 4))) fNil)))))))))))
def d_p_drawn : FD := fdOf 14 f_p_drawn
/-- _law_begun: 0 _law_script, 1 _law_wide, 2 _law_grain -/
abbrev f_begun : FS := S3.fr_begun
abbrev d_begun : FD := S3.dr_begun
/-- _law_mixed: 0 _law_draw, 1 _law_turn, 2 _law_found, 3 _law_prime, 4 _law_blend, 5 _law_grain -/
abbrev f_mixed : FS := S3.fr_mixed
abbrev d_mixed : FD := S3.dr_mixed
/-- _law_take: 0 _law_draw, 1 _law_many, 2 _law_found -/
abbrev f_take : FS := S3.fr_take
abbrev d_take : FD := S3.dr_take
/-- _law_pick: 0 _law_draw, 1 _law_some -/
abbrev f_pick : FS := S3.fr_pick
abbrev d_pick : FD := S3.dr_pick
/-- _law_shuffled: 0 _law_draw, 1 _law_some, 2 _law_left, 3 _law_found -/
abbrev f_shuffled : FS := S3.fr_shuffled
abbrev d_shuffled : FD := S3.dr_shuffled
/-- _law_goals: 0 _law_draw, 1 _law_many, 2 _law_most -/
def f_goals : FS := (fRet (fArgs oTuple (fCons (fSl (fCall 2 d_shuffled (fCons (fVar 0) (fCons (fU oRgL (fVar 1)) fNil))) (ret3 none) (bnd (fB oAdd (ret3 (.int 1)) (fCall 2 d_take (fCons (fVar 0) (fCons (fVar 2) fNil)))) asI)) fNil)))
def d_goals : FD := fdOf 3 f_goals
/-- _law_game: 0 _law_draw, 1 _law_most, 2 _law_wide, 3 _law_many, 4 _law_style, 5 _law_high, 6 _law_ends, 7 _law_ranks, 8 _law_rows, 9 _law_k -/
def f_game : FS := (fSeq (fAsg (fArgs oTup (fCons (fB oAdd (ret3 (.int 1)) (fCall 2 d_take (fCons (fVar 0) (fCons (fVar 1) fNil)))) (fCons (fCall 2 d_take (fCons (fVar 0) (fCons (ret3 (.int 6)) fNil))) (fCons (fCall 2 d_pick (fCons (fVar 0) (fCons (fArgs oLst (fCons (ret3 (.int 0)) (fCons (ret3 (.int 0)) (fCons (ret3 (.int 0)) (fCons (ret3 (.int 2)) (fCons (ret3 (.int 290)) (fCons (ret3 (.int 297)) fNil))))))) fNil))) fNil)))) (gTup3 3 (gCons3 (gVar 3) (gCons3 (gVar 4) (gCons3 (gVar 5) gNil3)))))
    (fSeq (fAsg (fArgs oLst (fCons (ret3 (.int 2)) (fCons (ret3 (.int 3)) (fCons (ret3 (.int 4)) (fCons (ret3 (.int 6)) (fCons (ret3 (.int 6)) (fCons (ret3 (.int 6)) fNil))))))) (gVar 6))
    (fSeq (fAsg (fIf (bnd (fB oEq (fVar 4) (ret3 (.int 0))) asB) (fCall 2 d_shuffled (fCons (fVar 0) (fCons (fU oRgL (fVar 3)) fNil))) (fLc loopN [9] (fOverR (fCons (fVar 3) fNil)) (gVar 9) (ret3 true) (fCall 2 d_take (fCons (fVar 0) (fCons (fB oIx (fVar 6) (fVar 4)) fNil))))) (gVar 7))
    (fSeq (fAsg (fLc loopN [9] (fOverR (fCons (fVar 3) fNil)) (gVar 9) (ret3 true) (fArgs oTup (fCons (fCall 2 d_take (fCons (fVar 0) (fCons (ret3 (.int 2)) fNil))) (fCons (fArgs oMin (fCons (ret3 (.int 301)) (fCons (fB oAdd (fVar 5) (fB oIx (fVar 7) (fVar 9))) fNil))) (fCons (fCall 3 d_goals (fCons (fVar 0) (fCons (fVar 3) (fCons (fVar 2) fNil)))) fNil))))) (gVar 8))
    (fRet (fArgs oTup (fCons (ret3 (.str "game")) (fCons (fArgs oTuple (fCons (fVar 8) fNil)) fNil))))))))
def d_game : FD := fdOf 10 f_game
/-- _law_bad_game: 0 _law_draw, 1 _law_row, 2 _law_some -/
def f_bad_game : FS := (fSeq (fAsg (fArgs oTup (fCons (ret3 (.int 0)) (fCons (ret3 (.int 0)) (fCons (fArgs oTup (fCons (ret3 (.int 0)) fNil)) fNil)))) (gVar 1))
    (fSeq (fAsg (fArgs oLst (fCons (ret3 .non) (fCons (ret3 (.int 5)) (fCons (ret3 (.str "game")) (fCons (fArgs oTup fNil) (fCons (fArgs oTup (fCons (ret3 (.str "game")) fNil)) (fCons (fArgs oTup (fCons (ret3 (.str "game")) (fCons (fArgs oTup fNil) fNil))) (fCons (fArgs oTup (fCons (ret3 (.str "games")) (fCons (fArgs oTup (fCons (fVar 1) fNil)) fNil))) (fCons (fArgs oTup (fCons (ret3 (.str "game")) (fCons (fArgs oLst (fCons (fVar 1) fNil)) fNil))) (fCons (fArgs oLst (fCons (ret3 (.str "game")) (fCons (fArgs oTup (fCons (fVar 1) fNil)) fNil))) (fCons (fArgs oTup (fCons (ret3 (.str "game")) (fCons (fArgs oTup (fCons (fVar 1) (fCons (ret3 .non) fNil))) fNil))) fNil))))))))))) (gVar 2))
    (fSeq (fAsg (fB oAdd (fVar 2) (fArgs oLst (fCons (fArgs oTup (fCons (ret3 (.str "game")) (fCons (fArgs oTup (fCons (fArgs oTup (fCons (ret3 (.int 0)) (fCons (ret3 (.int 0)) (fCons (fArgs oTup fNil) fNil)))) fNil)) fNil))) (fCons (fArgs oTup (fCons (ret3 (.str "game")) (fCons (fArgs oTup (fCons (fArgs oTup (fCons (ret3 (.int 0)) (fCons (ret3 (.int 0)) (fCons (fArgs oTup (fCons (ret3 (.int 1)) fNil)) fNil)))) fNil)) fNil))) (fCons (fArgs oTup (fCons (ret3 (.str "game")) (fCons (fArgs oTup (fCons (fArgs oTup (fCons (ret3 (.int 0)) (fCons (ret3 (.int 0)) (fCons (fArgs oTup (fCons (ret3 (.int 0)) (fCons (ret3 (.int 0)) fNil))) fNil)))) fNil)) fNil))) (fCons (fArgs oTup (fCons (ret3 (.str "game")) (fCons (fArgs oTup (fCons (fArgs oTup (fCons (ret3 (.int 2)) (fCons (ret3 (.int 0)) (fCons (fArgs oTup (fCons (ret3 (.int 0)) fNil)) fNil)))) fNil)) fNil))) fNil)))))) (gVar 2))
    (fSeq (fAsg (fB oAdd (fVar 2) (fArgs oLst (fCons (fArgs oTup (fCons (ret3 (.str "game")) (fCons (fArgs oTup (fCons (fArgs oTup (fCons (ret3 (.int 0)) (fCons (ret3 (.int 302)) (fCons (fArgs oTup (fCons (ret3 (.int 0)) fNil)) fNil)))) fNil)) fNil))) (fCons (fArgs oTup (fCons (ret3 (.str "game")) (fCons (fArgs oTup (fCons (fArgs oTup (fCons (ret3 (.int 0)) (fCons (fU oNeg (ret3 (.int 1))) (fCons (fArgs oTup (fCons (ret3 (.int 0)) fNil)) fNil)))) fNil)) fNil))) (fCons (fArgs oTup (fCons (ret3 (.str "game")) (fCons (fArgs oTup (fCons (fArgs oTup (fCons (ret3 (.bl true)) (fCons (ret3 (.int 0)) (fCons (fArgs oTup (fCons (ret3 (.int 0)) fNil)) fNil)))) fNil)) fNil))) (fCons (fArgs oTup (fCons (ret3 (.str "game")) (fCons (fArgs oTup (fCons (fArgs oTup (fCons (ret3 (.int 0)) (fCons (ret3 (.bl false)) (fCons (fArgs oTup (fCons (ret3 (.int 0)) fNil)) fNil)))) fNil)) fNil))) fNil)))))) (gVar 2))
    (fRet (fCall 2 d_pick (fCons (fVar 0) (fCons (fB oAdd (fVar 2) (fArgs oLst (fCons (fArgs oTup (fCons (ret3 (.str "game")) (fCons (fArgs oTup (fCons (fArgs oTup (fCons (ret3 (.int 0)) (fCons (ret3 (.int 0)) (fCons (fArgs oLst (fCons (ret3 (.int 0)) fNil)) fNil)))) fNil)) fNil))) (fCons (fArgs oTup (fCons (ret3 (.str "game")) (fCons (fArgs oTup (fCons (fArgs oTup (fCons (ret3 (.int 0)) (fCons (ret3 (.int 0)) (fCons (fArgs oTup (fCons (ret3 (.bl true)) fNil)) fNil)))) (fCons (fVar 1) fNil))) fNil))) (fCons (fArgs oTup (fCons (ret3 (.str "game")) (fCons (fArgs oTup (fCons (fVar 1) fNil)) (fCons (fArgs oTup fNil) fNil)))) (fCons (fArgs oTup (fCons (ret3 (.str "game")) (fCons (fArgs oTup (fCons (fArgs oTup (fCons (ret3 (.int 0)) (fCons (ret3 (.int 0)) fNil))) fNil)) fNil))) fNil)))))) fNil))))))))
def d_bad_game : FD := fdOf 3 f_bad_game
/-- _law_is_number: 0 _law_thing, 1 _law_end -/
def f_is_number : FS := (fRet (fAndV (fArgs oIsi (fCons (fVar 0) (fCons (ret3 (.ty "int")) fNil))) (fAndV (fNotV (fArgs oIsi (fCons (fVar 0) (fCons (ret3 (.ty "bool")) fNil)))) (fChain oLe oLt (ret3 (.int 0)) (fVar 0) (fVar 1)))))
def d_is_number : FD := fdOf 2 f_is_number
/-- _law_is_tuple: 0 _law_thing, 1 _law_many -/
def f_is_tuple : FS := (fRet (fAndV (fArgs oIsi (fCons (fVar 0) (fCons (ret3 (.ty "tuple")) fNil))) (fB oEq (fArgs oLen (fCons (fVar 0) fNil)) (fVar 1))))
def d_is_tuple : FD := fdOf 2 f_is_tuple
/-- _law_is_drawn: 0 _law_game_here, 1 _law_side, 2 _law_aims, 3 _law_found, 4 _law_at, 5 _law_row, 6 _law_many, 7 _law_ahead, 8 _law_told, 9 _law_due, 10 _law_goal -/
def f_is_drawn : FS := (fSeq (fIfS (fNot (bnd (fCall 2 d_is_tuple (fCons (fVar 3) (fCons (fArgs oLen (fCons (fB oIx (fVar 0) (ret3 (.int 1))) fNil)) fNil))) asB))
    (fRet (ret3 (.bl false)))
    fNop)
    (fSeq (fFor loopN (fOverET (fCons (fB oIx (fVar 0) (ret3 (.int 1))) fNil)) (gTup3 2 (gCons3 (gVar 4) (gCons3 (gVar 5) gNil3)))
    (fSeq (fAsg (fB oIx (fVar 3) (fVar 4)) (gVar 6))
    (fIfS (fAnd (bnd (fU (oIsN true) (fVar 6)) asB) (fNot (bnd (fCall 2 d_is_number (fCons (fVar 6) (fCons (fArgs oLen (fCons (fB oIx (fVar 0) (ret3 (.int 1))) fNil)) fNil))) asB)))
    (fRet (ret3 (.bl false)))
    fNop)))
    (fSeq (fFor loopN (fOverET (fCons (fB oIx (fVar 0) (ret3 (.int 1))) fNil)) (gTup3 2 (gCons3 (gVar 4) (gCons3 (gVar 5) gNil3)))
    (fSeq (fAsg (fLc loopN [10] (fOverT (fB oIx (fVar 5) (ret3 (.int 2)))) (gVar 10) (ret3 true) (fB oIx (fVar 3) (fVar 10))) (gVar 7))
    (fSeq (fAsg (fLc loopN [6] (fOverL (fVar 7)) (gVar 6) (bnd (fU (oIsN true) (fVar 6)) asB) (fVar 6)) (gVar 8))
    (fSeq (fIfS (bnd (fB (oIn false) (fVar 4) (fVar 2)) asB)
    (fAsg (ret3 (.int 0)) (gVar 9))
    (fIfS (bnd (fB oEq (fB oIx (fVar 5) (ret3 (.int 0))) (fVar 1)) asB)
    (fAsg (fIf (bnd (fB oEq (fVar 8) (fArgs oLst fNil)) asB) (ret3 .non) (fB oAdd (ret3 (.int 1)) (fArgs oMin (fCons (fVar 8) fNil)))) (gVar 9))
    (fAsg (fIf (bnd (fB oLt (fArgs oLen (fCons (fVar 8) fNil)) (fArgs oLen (fCons (fVar 7) fNil))) asB) (ret3 .non) (fB oAdd (ret3 (.int 1)) (fArgs oMax (fCons (fVar 8) fNil)))) (gVar 9))))
    (fIfS (bnd (fB oNe (fB oIx (fVar 3) (fVar 4)) (fVar 9)) asB)
    (fRet (ret3 (.bl false)))
    fNop)))))
    (fRet (ret3 (.bl true))))))
def d_is_drawn : FD := fdOf 11 f_is_drawn
/-- _law_bad_aims: 0 _law_draw, 1 _law_many -/
def f_bad_aims : FS := (fRet (fCall 2 d_pick (fCons (fVar 0) (fCons (fArgs oLst (fCons (ret3 .non) (fCons (ret3 (.int 5)) (fCons (fArgs oLst (fCons (ret3 (.int 0)) fNil)) (fCons (fArgs oTup (fCons (fVar 1) fNil)) (fCons (fArgs oTup (fCons (fU oNeg (ret3 (.int 1))) fNil)) (fCons (fArgs oTup (fCons (ret3 (.bl true)) fNil)) (fCons (fArgs oTup (fCons (ret3 (.str "0")) fNil)) (fCons (fArgs oTup (fCons (ret3 (.int 0)) (fCons (ret3 (.int 0)) fNil))) (fCons (fArgs oTup (fCons (fB oSub (fVar 1) (ret3 (.int 1))) (fCons (fVar 1) fNil))) (fCons (fArgs oTup (fCons (ret3 .non) fNil)) (fCons (fArgs oTup (fCons (fArgs oTup (fCons (ret3 (.int 0)) fNil)) fNil)) fNil)))))))))))) fNil))))
def d_bad_aims : FD := fdOf 2 f_bad_aims
/-- law: 0 _law_script, 1 _law_draw, 2 _law_turn, 3 _law_many, 4 _law_aims, 5 _law_found, 6 _law_bad, 7 _law_game_here, 8 _law_odd, 9 _law_side, 10 _law_worst -/
def f_main : FS := (fSeq (fAsg (fCall 1 d_begun (fCons (fVar 0) fNil)) (gVar 1))
    (fSeq (fFor loopN (fOverR (fCons (fB oAdd (ret3 (.int 4)) (fArgs oMin (fCons (fArgs oLen (fCons (fVar 0) fNil)) (fCons (ret3 (.int 10)) fNil)))) fNil)) (gVar 2)
    (fSeq (fAsg (fArgs oTup (fCons (fCall 3 d_game (fCons (fVar 1) (fCons (ret3 (.int 12)) (fCons (ret3 (.int 3)) fNil)))) (fCons (fCall 2 d_take (fCons (fVar 1) (fCons (ret3 (.int 2)) fNil))) fNil))) (gTup3 2 (gCons3 (gVar 7) (gCons3 (gVar 9) gNil3))))
    (fSeq (fAsg (fArgs oLen (fCons (fB oIx (fVar 7) (ret3 (.int 1))) fNil)) (gVar 3))
    (fSeq (fAsg (fArgs oTuple (fCons (fArgs oSorted (fCons (fSl (fCall 2 d_shuffled (fCons (fVar 1) (fCons (fU oRgL (fVar 3)) fNil))) (ret3 none) (bnd (fCall 2 d_pick (fCons (fVar 1) (fCons (fArgs oLst (fCons (ret3 (.int 0)) (fCons (ret3 (.int 1)) (fCons (ret3 (.int 1)) (fCons (ret3 (.int 2)) (fCons (ret3 (.int 3)) (fCons (fVar 3) fNil))))))) fNil))) asI)) fNil)) fNil)) (gVar 4))
    (fSeq (fAsg (fCall 3 d_p_drawn (fCons (fVar 7) (fCons (fVar 9) (fCons (fVar 4) fNil)))) (gVar 5))
    (fSeq (fIfS (fOr (fNot (bnd (fCall 4 d_is_drawn (fCons (fVar 7) (fCons (fVar 9) (fCons (fVar 4) (fCons (fVar 5) fNil))))) asB)) (bnd (fB oNe (fArgs oRepr (fCons (fCallK [2, 1, 0] d_p_drawn (fCons (fVar 4) (fCons (fVar 9) (fCons (fVar 7) fNil)))) fNil)) (fArgs oRepr (fCons (fVar 5) fNil))) asB))
    (fRet (ret3 (.bl false)))
    fNop)
    (fSeq (fAsg (fArgs oTup (fCons (fCall 2 d_bad_aims (fCons (fVar 1) (fCons (fVar 3) fNil))) (fCons (fCall 2 d_pick (fCons (fVar 1) (fCons (fArgs oLst (fCons (ret3 (.int 2)) (fCons (fU oNeg (ret3 (.int 1))) (fCons (ret3 (.bl true)) (fCons (ret3 .non) (fCons (ret3 (.str "0")) (fCons (fArgs oTup (fCons (ret3 (.int 0)) fNil)) fNil))))))) fNil))) fNil))) (gTup3 2 (gCons3 (gVar 6) (gCons3 (gVar 8) gNil3))))
    (fSeq (fAsg (fCall 1 d_bad_game (fCons (fVar 1) fNil)) (gVar 10))
    (fSeq (fIfS (fNot (bnd (fArgs (oIsV tab) (fCons (fCaught (fCall 3 d_p_drawn (fCons (fVar 10) (fCons (fVar 8) (fCons (fVar 6) fNil))))) (fCons (ret3 (.cl 2)) fNil))) asB))
    (fRet (ret3 (.bl false)))
    fNop)
    (fSeq (fIfS (fNot (bnd (fArgs (oIsV tab) (fCons (fCaught (fCall 3 d_p_drawn (fCons (fVar 7) (fCons (fVar 8) (fCons (fVar 6) fNil))))) (fCons (ret3 (.cl 3)) fNil))) asB))
    (fRet (ret3 (.bl false)))
    fNop)
    (fSeq (fIfS (fNot (bnd (fArgs (oIsV tab) (fCons (fCaught (fCall 3 d_p_drawn (fCons (fVar 7) (fCons (fVar 9) (fCons (fVar 6) fNil))))) (fCons (ret3 (.cl 1)) fNil))) asB))
    (fRet (ret3 (.bl false)))
    fNop)
    (fIfS (fAnd (bnd (fB oGt (fVar 3) (ret3 (.int 1))) asB) (fNot (bnd (fArgs (oIsV tab) (fCons (fCaught (fCall 3 d_p_drawn (fCons (fVar 7) (fCons (fVar 9) (fCons (fArgs oTup (fCons (ret3 (.int 1)) (fCons (ret3 (.int 0)) fNil))) fNil))))) (fCons (ret3 (.cl 1)) fNil))) asB)))
    (fRet (ret3 (.bl false)))
    fNop))))))))))))
    (fRet (ret3 (.bl true)))))
def d_main : FD := fdOf 11 f_main
end L_k09

set_option maxHeartbeats 4000000
/-! k09, plain law 1: the drawn games. -/
namespace L_k09
open PySem PyProof.Rows L2 S3
structure Row where
  own : Int
  rank : Int
  goals : List Int
def rowD (r : Row) : D := .tup [.int r.own, .int r.rank, .tup (r.goals.map D.int)]
def gameD (rows : List Row) : D := .tup [.str "game", .tup (rows.map rowD)]
structure GoodRow (n : Nat) (r : Row) : Prop where
  o0 : 0 ≤ r.own
  o1 : r.own < 2
  k0 : 0 ≤ r.rank
  k1 : r.rank ≤ 301
  g1 : 1 ≤ r.goals.length
  g4 : r.goals.length ≤ 12
  gn : r.goals.Nodup
  gl : ∀ g ∈ r.goals, 0 ≤ g ∧ g < n
structure Good (rows : List Row) : Prop where
  one : 1 ≤ rows.length
  most : rows.length ≤ 12
  row : ∀ r ∈ rows, GoodRow rows.length r
theorem goals_ok {st : Sto} {p w c T : Nat} {many : Nat} (h : Drw st p w c T) (hT : T < 2 ^ 39) (h1 : 1 ≤ many) (h2 : many ≤ 12) : Wd d_goals [.loc p, .int many, .int 3] st fun r st' => (∃ gs : List Int, r = .tup (gs.map D.int) ∧ 1 ≤ gs.length ∧ gs.length ≤ 12 ∧ gs.Nodup ∧ ∀ g ∈ gs, 0 ≤ g ∧ g < many) ∧ Drw st' p w c (T + 13) ∧ Frm p w st st' := by
  refine Wd_of ?_
  show Ws _ [some (.loc p), some (.int many), some (.int 3)] _ _
  unfold f_goals
  refine Ws_ret ?_
  simp only [Ok_fArgs, Ok_fCons, Ok_fSl, Ok_fCall, Ok_fU, Ok_varS, Ok_var0, Ok_fNil, Ok_ret, Ok_bnd, Ok_fB, Ok_asI]
  rw [Wo_rgL (by omega), rgI]
  refine ⟨rfl, (shuffled_ok (h.app _) (by rw [rg_len]; omega) (seqA_loc app_new) (by rw [rg_len]; omega)).mono fun r st2 hr => ?_⟩
  obtain ⟨⟨m, ms, rfl, hm, e2, hp⟩, d2, f2⟩ := hr
  have f2' : Frm p w st st2 := (Frm.app _).trans f2
  rw [rg_len] at d2
  refine ⟨rfl, (take_ok d2 (by omega) (by decide) (by decide)).mono fun r st3 hr => ?_⟩
  obtain ⟨⟨i, rfl, i0, i1⟩, d3, f3⟩ := hr
  obtain ⟨hpl, hwl⟩ : p < st.length ∧ w < st.length := by
    obtain ⟨r, t, ws, cs, y⟩ := h
    exact ⟨(List.getElem?_eq_some_iff.mp y.hp).1, (List.getElem?_eq_some_iff.mp y.hw).1⟩
  simp only [List.length_append, List.length_cons, List.length_nil] at hm
  have e3 : st3[m]? = some (.lst (ms.map D.int)) := f3.get e2 (by omega) (by omega)
  simp only [Wo_add, D.int.injEq, exists_eq_left']
  rw [Wo_slL e3, show (1 + i) = ((1 + i.toNat : Nat) : Int) by omega, cut_take, Wo_tupleL app_new]
  have hl : ms.length = many := by rw [hp.length_eq, rg_len]
  have nd : ms.Nodup := hp.nodup_iff.mpr (rg_nodup many)
  refine ⟨⟨ms.take (1 + i.toNat), by rw [List.map_take], by simp; omega, by simp; omega, nd.sublist (List.take_sublist _ _), fun g hg => ?_⟩, (d3.mono (by omega)).app _, (f2'.trans f3).trans (Frm.app _)⟩
  exact rg_mem.mp (hp.mem_iff.mp (List.mem_of_mem_take hg))
theorem many_mem {ns : List Int} {g : Int} {l : List Int} (h : g ∈ l.map id) : g ∈ l := by simpa using h
/-- a row of ints of the draw, as a comprehension lays it -/
theorem game_ok {st : Sto} {p w c T : Nat} (h : Drw st p w c T) (hT : T < 2 ^ 38) : Wd d_game [.loc p, .int 12, .int 3] st fun r st' => (∃ rows, r = gameD rows ∧ Good rows) ∧ Drw st' p w c (T + 400) ∧ Frm p w st st' := by
  obtain ⟨hpl, hwl, hcl⟩ : p < st.length ∧ w < st.length ∧ c < st.length := by
    obtain ⟨r, t, ws, cs, y⟩ := h
    exact ⟨(List.getElem?_eq_some_iff.mp y.hp).1, (List.getElem?_eq_some_iff.mp y.hw).1, (List.getElem?_eq_some_iff.mp y.hc).1⟩
  refine Wd_of ?_
  show Ws _ [some (.loc p), some (.int 12), some (.int 3), none, none, none, none, none, none, none] _ _
  unfold f_game
  rw [Ws_seq]
  refine Ws_asg ?_
  simp only [Ok_fArgs, Ok_fCons, Ok_fCall, Ok_fB, Ok_varS, Ok_var0, Ok_fNil, Ok_ret]
  refine ⟨rfl, (take_ok h (by omega) (by decide) (by decide)).mono fun r st1 hr => ?_⟩
  obtain ⟨⟨m0, rfl, a0, a1⟩, d1, f1⟩ := hr
  rw [Wo_add]
  refine ⟨rfl, (take_ok d1 (by omega) (by decide) (by decide)).mono fun r st2 hr => ?_⟩
  obtain ⟨⟨style, rfl, b0, b1⟩, d2, f2⟩ := hr
  rw [Wo_lst (small_sz (by simp))]
  have fr2 := f1.trans f2
  have l2 := fr2.len
  refine ⟨rfl, (pick_ok (ds := [.int 0, .int 0, .int 0, .int 2, .int 290, .int 297]) (d2.app _) (by omega) (fun s f => seqA_loc (f.get app_new (by omega) (by omega))) (by simp) (by simp)).mono fun r st3 hr => ?_⟩
  obtain ⟨hr, d3, f3⟩ := hr
  obtain ⟨high, rfl, c0, c1⟩ : ∃ high : Int, r = .int high ∧ 0 ≤ high ∧ high ≤ 297 := by
    simp only [List.mem_cons, List.not_mem_nil, or_false] at hr
    rcases hr with rfl | rfl | rfl | rfl | rfl | rfl <;> exact ⟨_, rfl, by decide, by decide⟩
  have fr3 : Frm p w st st3 := (fr2.trans (Frm.app _)).trans f3
  obtain ⟨many, hmany, m1, m12⟩ : ∃ many : Nat, 1 + m0 = (many : Int) ∧ 1 ≤ many ∧ many ≤ 12 := ⟨(1 + m0).toNat, by omega, by omega, by omega⟩
  rw [hmany, Wo_tup (small_sz (by simp))]
  refine ⟨_, _, rfl, ?_⟩
  show Ws _ [some (.loc p), some (.int 12), some (.int 3), some (.int many), some (.int style), some (.int high), none, none, none, none] st3 _
  rw [Ws_seq]
  refine Ws_set ?_
  simp only [Ok_fArgs, Ok_fCons, Ok_fNil, Ok_ret]
  rw [Wo_lst (small_sz (by simp)), thenS_nx]
  show Ws _ [some (.loc p), some (.int 12), some (.int 3), some (.int many), some (.int style), some (.int high), some (.loc st3.length), none, none, none] _ _
  have l3 := fr3.len
  have hends : ∀ s, Frm p w (st3 ++ [O.lst [.int 2, .int 3, .int 4, .int 6, .int 6, .int 6]]) s → seqA s (.loc st3.length) = some [.int 2, .int 3, .int 4, .int 6, .int 6, .int 6] := fun s f => seqA_loc (f.get app_new (by omega) (by omega))
  have fr4 : Frm p w st (st3 ++ [O.lst [.int 2, .int 3, .int 4, .int 6, .int 6, .int 6]]) := fr3.trans (Frm.app _)
  have d4 : Drw (st3 ++ [O.lst [.int 2, .int 3, .int 4, .int 6, .int 6, .int 6]]) p w c (T + 1 + 1 + 1) := d3.app _
  have l4 : st.length < (st3 ++ [O.lst [.int 2, .int 3, .int 4, .int 6, .int 6, .int 6]]).length := by simp; omega
  generalize st3 ++ [O.lst [.int 2, .int 3, .int 4, .int 6, .int 6, .int 6]] = st4 at hends fr4 d4 l4 ⊢
  rw [Ws_seq]
  have ranks : Ok (fIf (bnd (fB oEq (fVar 4) (ret3 (.int 0))) asB) (fCall 2 d_shuffled (fCons (fVar 0) (fCons (fU oRgL (fVar 3)) fNil))) (fLc loopN [9] (fOverR (fCons (fVar 3) fNil)) (gVar 9) (ret3 true) (fCall 2 d_take (fCons (fVar 0) (fCons (fB oIx (fVar 6) (fVar 4)) fNil)))))
      [some (.loc p), some (.int 12), some (.int 3), some (.int many), some (.int style), some (.int high), some (.loc st3.length), none, none, none] st4 fun d s => ∃ (m : Nat) (ks : List Int), d = .loc m ∧ st4.length ≤ m ∧ s[m]? = some (.lst (ks.map D.int)) ∧ ks.length = many ∧ (∀ k ∈ ks, 0 ≤ k) ∧ Drw s p w c (T + 15) ∧ Frm p w st4 s := by
    simp only [Ok_fIf, Ok_bnd, Ok_fB, Ok_varS, Ok_var0, Ok_ret, Wo_eqI, Ok_asB, D.bl.injEq, exists_eq_left']
    by_cases hs : style = 0
    · rw [if_pos (by simpa using hs)]
      simp only [Ok_fCall, Ok_fCons, Ok_fU, Ok_varS, Ok_var0, Ok_fNil]
      rw [Wo_rgL (by omega), rgI]
      refine ⟨rfl, (shuffled_ok (d4.app _) (by rw [rg_len]; omega) (seqA_loc app_new) (by rw [rg_len]; omega)).mono fun r s hr => ?_⟩
      obtain ⟨⟨m, ms, rfl, hm, e2, hp⟩, d5, f5⟩ := hr
      rw [rg_len] at d5
      simp only [List.length_append, List.length_cons, List.length_nil] at hm
      exact ⟨m, ms, rfl, by omega, e2, by rw [hp.length_eq, rg_len], fun k hk => (rg_mem.mp (hp.mem_iff.mp hk)).1, d5.mono (by omega), (Frm.app _).trans f5⟩
    · rw [if_neg (by simpa using hs)]
      refine Ok_lc (Ok_overR ?_)
      simp only [Ok_fCons, Ok_varS, Ok_var0, Ok_fNil]
      refine ⟨many, rfl, by omega, many, fun i acc s => (∃ ks : List Int, acc = ks.map D.int ∧ ks.length = i ∧ ∀ k ∈ ks, 0 ≤ k) ∧ Drw s p w c (T + 3 + i) ∧ Frm p w st4 s, lt_loop (by omega), ⟨⟨[], rfl, rfl, by simp⟩, d4.app _, Frm.app _⟩, ?_, ?_⟩
      · rintro i acc s hi ⟨⟨ks, rfl, hk, k0⟩, dd, ff⟩ hD
        refine ⟨.int (i : Nat), [some (.loc p), some (.int 12), some (.int 3), some (.int many), some (.int style), some (.int high), some (.loc st3.length), none, none, some (.int (i : Nat))], s, by rw [srcR_eq, rg_get, if_pos hi], rfl, ?_⟩
        simp only [Ok_ret, if_true, Ok_fCall, Ok_fCons, Ok_fB, Ok_varS, Ok_var0, Ok_fNil]
        have hst : style.toNat < 6 := by omega
        obtain ⟨en, hen, e0, e6⟩ : ∃ en : Int, ([.int 2, .int 3, .int 4, .int 6, .int 6, .int 6] : List D)[style.toNat]? = some (.int en) ∧ 0 < en ∧ en < 1000 := by
          match style.toNat, hst with
          | 0, _ => exact ⟨_, rfl, by decide, by decide⟩
          | 1, _ => exact ⟨_, rfl, by decide, by decide⟩
          | 2, _ => exact ⟨_, rfl, by decide, by decide⟩
          | 3, _ => exact ⟨_, rfl, by decide, by decide⟩
          | 4, _ => exact ⟨_, rfl, by decide, by decide⟩
          | 5, _ => exact ⟨_, rfl, by decide, by decide⟩
        rw [show style = ((style.toNat : Nat) : Int) by omega, Wo_ix (hends s ff) hen]
        refine ⟨rfl, (take_ok dd (by omega) e0 (by omega)).mono fun r s2 hr => ?_⟩
        obtain ⟨⟨v, rfl, v0, v1⟩, d6, f6⟩ := hr
        have hD2 := f6.get hD (by omega) (by omega)
        have hlt : st4.length < s2.length := (List.getElem?_eq_some_iff.mp hD2).1
        refine ⟨hD2, by simp; exact small_sz' (by omega), ⟨ks ++ [v], by simp, by simp [hk], fun k hk2 => ?_⟩, ?_, (ff.trans f6).setNew (Nat.le_refl _)⟩
        · rcases List.mem_append.mp hk2 with z | z
          · exact k0 k z
          · rw [List.mem_singleton.mp z]
            exact v0
        · have := (d6.set (o := .lst (ks.map D.int ++ [.int v])) (n := st4.length) (by omega) (by omega) (by omega))
          rw [show T + 3 + (i + 1) = T + 3 + i + 1 by omega]
          exact this
      · rintro acc s ⟨⟨ks, rfl, hk, k0⟩, dd, ff⟩ hD
        refine ⟨by rw [srcR_eq, rg_get, if_neg (by omega)], st4.length, ks, rfl, Nat.le_refl _, hD, hk, k0, dd.mono (by omega), ff⟩
  refine Ws_set (ranks.mono fun d st5 hd => ?_)
  obtain ⟨m, ks, rfl, hm, e5, hkl, hk0, d5, f5⟩ := hd
  rw [thenS_nx]
  show Ws _ [some (.loc p), some (.int 12), some (.int 3), some (.int many), some (.int style), some (.int high), some (.loc st3.length), some (.loc m), none, none] st5 _
  have fr5 := fr4.trans f5
  have l5 := fr5.len
  have mlt : m < st5.length := (List.getElem?_eq_some_iff.mp e5).1
  rw [Ws_seq]
  refine Ws_set (Ok_lc (Ok_overR ?_))
  simp only [Ok_fCons, Ok_varS, Ok_var0, Ok_fNil]
  refine ⟨many, rfl, by omega, many, fun i acc s => (∃ rows : List Row, acc = rows.map rowD ∧ rows.length = i ∧ ∀ r ∈ rows, GoodRow many r) ∧ Drw s p w c (T + 15 + 14 * i) ∧ Frm p w st5 s, lt_loop (by omega), ⟨⟨[], rfl, rfl, by simp⟩, d5.app _, Frm.app _⟩, ?_, ?_⟩
  · rintro i acc s hi ⟨⟨rows, rfl, hk, hg⟩, dd, ff⟩ hD
    refine ⟨.int (i : Nat), [some (.loc p), some (.int 12), some (.int 3), some (.int many), some (.int style), some (.int high), some (.loc st3.length), some (.loc m), none, some (.int (i : Nat))], s, by rw [srcR_eq, rg_get, if_pos hi], rfl, ?_⟩
    simp only [Ok_ret, if_true, Ok_fArgs, Ok_fCall, Ok_fCons, Ok_fB, Ok_varS, Ok_var0, Ok_fNil]
    refine ⟨rfl, (take_ok dd (by omega) (by decide) (by decide)).mono fun r s2 hr => ?_⟩
    obtain ⟨⟨o, rfl, o0, o1⟩, d6, f6⟩ := hr
    have hki : i < ks.length := by omega
    have ekn : s2[m]? = some (.lst (ks.map D.int)) := f6.get (ff.get e5 (by omega) (by omega)) (by omega) (by omega)
    rw [Wo_ix (seqA_loc ekn) (ints_get hki), Wo_add, Wo_min2]
    refine ⟨rfl, (goals_ok d6 (by omega) m1 m12).mono fun r s3 hr => ?_⟩
    obtain ⟨⟨gs, rfl, q1, q2, q3, q4⟩, d7, f7⟩ := hr
    rw [Wo_tup (small_sz (by simp))]
    have hD3 := f7.get (f6.get hD (by omega) (by omega)) (by omega) (by omega)
    have kk := hk0 ks[i] (List.getElem_mem hki)
    refine ⟨hD3, by simp; exact small_sz' (by omega), ⟨rows ++ [⟨o, if high + ks[i] < 301 then high + ks[i] else 301, gs⟩], by simp [rowD], by simp [hk], fun r hr => ?_⟩, ?_, ((ff.trans f6).trans f7).setNew (Nat.le_refl _)⟩
    · rcases List.mem_append.mp hr with z | z
      · exact hg r z
      · rw [List.mem_singleton.mp z]
        refine ⟨o0, o1, ?_, ?_, q1, q2, q3, q4⟩
        · show 0 ≤ if high + ks[i] < 301 then high + ks[i] else 301
          split <;> omega
        · show (if high + ks[i] < 301 then high + ks[i] else 301) ≤ 301
          split <;> omega
    · have := (d7.set (o := .lst (rows.map rowD ++ [.tup [.int o, .int (if high + ks[i] < 301 then high + ks[i] else 301), .tup (gs.map D.int)]])) (n := st5.length) (by omega) (by omega) (by omega))
      rw [show T + 15 + 14 * (i + 1) = T + 15 + 14 * i + 1 + 13 by omega]
      exact this
  · rintro acc s ⟨⟨rows, rfl, hk, hg⟩, dd, ff⟩ hD
    refine ⟨by rw [srcR_eq, rg_get, if_neg (by omega)], ?_⟩
    rw [thenS_nx]
    show Ws _ [some (.loc p), some (.int 12), some (.int 3), some (.int many), some (.int style), some (.int high), some (.loc st3.length), some (.loc m), some (.loc st5.length), none] s _
    refine Ws_ret ?_
    simp only [Ok_fArgs, Ok_fCons, Ok_varS, Ok_var0, Ok_fNil, Ok_ret]
    rw [Wo_tupleL hD, Wo_tup (small_sz (by simp))]
    refine ⟨⟨rows, rfl, by omega, by omega, fun r hr => by rw [hk]; exact hg r hr⟩, dd.mono (by omega), fr5.trans ff⟩
end L_k09

set_option maxHeartbeats 4000000
/-! k09, plain law 2: the program's judges. -/
namespace L_k09
open PySem PyProof.Rows L2 S3
theorem pv_isInt {fa : F3 D} {env : Env3} {st : Sto} {x : D} (h : Pv fa env st x) (t : Td st x) : Pv (fArgs oIsi (fCons fa (fCons (ret3 (.ty "int")) fNil))) env st (.bl (isIntD x)) := pv_A (pv_cons h (pv_cons pv_ret pv_nil)) (pvo_iff fun s Q p => Wo_isInt (t.pre p))
theorem pv_isBl {fa : F3 D} {env : Env3} {st : Sto} {x : D} (h : Pv fa env st x) (t : Td st x) : Pv (fArgs oIsi (fCons fa (fCons (ret3 (.ty "bool")) fNil))) env st (.bl (isBlD x)) := pv_A (pv_cons h (pv_cons pv_ret pv_nil)) (pvo_iff fun s Q p => Wo_isBl (t.pre p))
theorem pv_isStr {fa : F3 D} {env : Env3} {st : Sto} {x : D} (h : Pv fa env st x) (t : Td st x) : Pv (fArgs oIsi (fCons fa (fCons (ret3 (.ty "str")) fNil))) env st (.bl (isStrD x)) := pv_A (pv_cons h (pv_cons pv_ret pv_nil)) (pvo_iff fun s Q p => Wo_isStr (t.pre p))
theorem pv_isTup {fa : F3 D} {env : Env3} {st : Sto} {x : D} (h : Pv fa env st x) (t : Td st x) : Pv (fArgs oIsi (fCons fa (fCons (ret3 (.ty "tuple")) fNil))) env st (.bl (isTupD x)) := pv_A (pv_cons h (pv_cons pv_ret pv_nil)) (pvo_iff fun s Q p => Wo_isTup (t.pre p))
theorem pv_len {fa : F3 D} {env : Env3} {st : Sto} {ds : List D} (h : Pv fa env st (.tup ds)) : Pv (fArgs oLen (fCons fa fNil)) env st (.int ds.length) := pv_A (pv_cons h pv_nil) (pvo_iff fun s Q p => Wo_len seqA_tup)
theorem pv_at {fa : F3 D} {env : Env3} {st : Sto} {ds : List D} {d : D} (n : Nat) {i : Int} (h : Pv fa env st (.tup ds)) (e : ds[n]? = some d) (hi : i = (n : Int) := by rfl) : Pv (fB oIx fa (ret3 (.int i))) env st d := by
  subst hi
  exact pv_B h pv_ret (pvo_iff fun s Q p => Wo_ix seqA_tup e)
theorem pv_neI {fa fb : F3 D} {env : Env3} {st : Sto} {i j : Int} (h : Pv fa env st (.int i)) (k : Pv fb env st (.int j)) : PvB (bnd (fB oNe fa fb) asB) env st (!decide (i = j)) := pv_asB (pv_B h k (pvo_iff fun s Q p => Wo_neI))
theorem is_number_ok {st : Sto} {x : D} {e : Int} (h : Td st x) : Wd d_p_is_number [x, .int e] st fun r st' => r = .bl (isNum x e) ∧ Pre st st' := by
  refine Wd_of ?_
  show Ws _ [some x, some (.int e)] _ _
  have key : Pv (fAndV (fArgs oIsi (fCons (fVar 0) (fCons (ret3 (.ty "int")) fNil))) (fAndV (fNotV (fArgs oIsi (fCons (fVar 0) (fCons (ret3 (.ty "bool")) fNil)))) (fChain oLe oLt (ret3 (.int 0)) (fVar 0) (fVar 1)))) [some x, some (.int e)] st (.bl (isNum x e)) := by
    have v0 : Pv (fVar 0) [some x, some (.int e)] st x := pv_var rfl
    cases h with
    | int i =>
      have c := pv_chain (o1 := oLe) (o2 := oLt) (B := decide (0 ≤ i)) (C := decide (i < e)) (pv_ret (d := .int 0)) v0 (pvo_iff fun s Q p => Wo_le) (fun _ => pv_var (i := 1) rfl) (fun _ => pvo_iff fun s Q p => Wo_lt)
      exact pv_andV (B := true) (C := isNum (.int i) e) (pv_isInt v0 (.int i)) fun _ => pv_andV (B := true) (C := isNum (.int i) e) (pv_notV (pv_isBl v0 (.int i))) fun _ => c
    | bl b => exact pv_andV (B := true) (C := false) (pv_isInt v0 (.bl b)) fun _ => pv_andV (B := false) (C := false) (pv_notV (pv_isBl v0 (.bl b))) fun z => by cases z
    | non => exact pv_andV (B := false) (C := false) (pv_isInt v0 .non) fun z => by cases z
    | str z => exact pv_andV (B := false) (C := false) (pv_isInt v0 (.str z)) fun z => by cases z
    | tup z => exact pv_andV (B := false) (C := false) (pv_isInt v0 (.tup z)) fun z => by cases z
    | lst z => exact pv_andV (B := false) (C := false) (pv_isInt v0 (.lst z)) fun z => by cases z
  exact ws_ret key fun s p => ⟨rfl, p⟩
theorem pv_num {fa fb : F3 D} {env : Env3} {st : Sto} {x : D} {e : Int} (h : Pv fa env st x) (t : Td st x) (k : Pv fb env st (.int e)) : Pv (fCall 2 d_p_is_number (fCons fa (fCons fb fNil))) env st (.bl (isNum x e)) := pv_call (pv_cons h (pv_cons k pv_nil)) rfl fun s p => is_number_ok (t.pre p)
def intsD (ds : List D) : List Int := ds.filterMap fun d => match d with
  | .int i => some i
  | _ => none
theorem intsD_all {n : Int} : ∀ {ds : List D}, ds.all (fun d => isNum d n) = true → ds = (intsD ds).map D.int ∧ (intsD ds).length = ds.length
  | [], _ => ⟨rfl, rfl⟩
  | d :: ds, h => by
    rw [List.all_cons, Bool.and_eq_true] at h
    obtain ⟨h1, h2⟩ := h
    obtain ⟨e1, e2⟩ := intsD_all h2
    cases d with
    | int i =>
      constructor
      · show _ = D.int i :: (intsD ds).map D.int
        rw [← e1]
      · show (intsD ds).length + 1 = ds.length + 1
        rw [e2]
    | _ => cases h1
def isRow (x : D) (n : Int) : Bool := match x with
  | .tup [a, b, .tup gs] => isNum a 2 && (isNum b 302 && (decide (1 ≤ gs.length) && (decide (gs.length ≤ 4000) && (gs.all (fun d => isNum d n) && decide ((nubI (intsD gs)).length = gs.length)))))
  | _ => false
/-- a value of which each part of a row is of a known kind -/
def TdRow (st : Sto) (x : D) : Prop := Td st x ∧ ∀ ds, x = .tup ds → (∀ d ∈ ds, Td st d) ∧ ∀ gs, .tup gs ∈ ds → ∀ d ∈ gs, Td st d
theorem TdRow.pre {st st' : Sto} {x : D} (h : TdRow st x) (p : Pre st st') : TdRow st' x := ⟨h.1.pre p, fun ds e => ⟨fun d hd => ((h.2 ds e).1 d hd).pre p, fun gs hg d hd => ((h.2 ds e).2 gs hg d hd).pre p⟩⟩
theorem is_row_ok {st : Sto} {x : D} {n : Int} (h : TdRow st x) : Wd d_p_is_row [x, .int n] st fun r st' => r = .bl (isRow x n) ∧ Pre st st' := by
  refine Wd_of ?_
  show Ws _ [some x, some (.int n), none] _ _
  unfold f_p_is_row
  obtain ⟨hx, hp⟩ := h
  have v0 : Pv (fVar 0) [some x, some (.int n), none] st x := pv_var rfl
  have t0 := pv_asB (pv_isTup v0 hx)
  cases hx with
  | tup ds =>
    obtain ⟨hd, hg⟩ := hp ds rfl
    have l0 := pv_neI (pv_len v0) (pv_ret (d := .int 3))
    by_cases hl : ds.length = 3
    · match ds, hl with
      | [a, b, cc], _ =>
        have ha := pv_at 0 v0 (d := a) rfl
        have hb := pv_at 1 v0 (d := b) rfl
        have hc := pv_at 2 v0 (d := cc) rfl
        refine ws_guard (B := !isNum a 2) (pv_or (B := false) (pv_not t0) fun _ => pv_or (B := false) (C := !isNum a 2) l0 fun _ => pv_not (pv_asB (pv_num ha (hd a (by simp)) pv_ret))) (fun hB s p => ?_) fun hB s p => ?_
        · have : isNum a 2 = false := by simpa using hB
          exact ⟨by cases cc <;> simp [isRow, this], p⟩
        have na : isNum a 2 = true := by simpa using hB
        have nb := pv_asB (pv_num (hb.pre p) ((hd b (by simp)).pre p) (pv_B (o := oAdd) (d := .int 302) (pv_ret (d := .int 301)) (pv_ret (d := .int 1)) (pvo_iff fun s Q p => Wo_add)))
        have tc := pv_asB (pv_isTup (hc.pre p) ((hd cc (by simp)).pre p))
        refine ws_guard (B := !isNum b 302 || !isTupD cc) (pv_or (pv_not nb) fun _ => pv_not tc) (fun hB s2 p2 => ?_) fun hB s2 p2 => ?_
        · refine ⟨?_, p.trans p2⟩
          have : isNum b 302 = false ∨ isTupD cc = false := by simpa using hB
          rcases this with z | z
          · cases cc <;> simp [isRow, z]
          · cases cc <;> first | rfl | cases z
        have hB' : isNum b 302 = true ∧ isTupD cc = true := by simpa using hB
        have pp := p.trans p2
        cases cc with
        | tup gs =>
          have lg := pv_len (hc.pre pp)
          have ch := pv_chain (o1 := oLe) (o2 := oLe) (B := decide (1 ≤ (gs.length : Int))) (C := decide ((gs.length : Int) ≤ 4000)) (pv_ret (d := .int 1)) lg (pvo_iff fun s Q p => Wo_le) (fun _ => pv_ret (d := .int 4000)) (fun _ => pvo_iff fun s Q p => Wo_le)
          refine ws_guard (B := !(decide (1 ≤ (gs.length : Int)) && decide ((gs.length : Int) ≤ 4000)) || !(gs.all fun d => isNum d n)) (pv_or (pv_not (pv_asB ch)) fun hz => pv_not (pv_asB (pv_allT (hc.pre pp) (by simp at hz; omega) (lt_loop (by simp at hz; omega)) fun d hdm => pv_num (pv_var rfl) ((hg gs (by simp) d hdm).pre pp) (pv_var rfl)))) (fun hB s3 p3 => ?_) fun hB s3 p3 => ?_
          · refine ⟨?_, pp.trans p3⟩
            have hcase : ¬ (1 ≤ gs.length ∧ gs.length ≤ 4000) ∨ (gs.all fun d => isNum d n) = false := by
              by_cases z : 1 ≤ gs.length ∧ gs.length ≤ 4000
              · right
                have z1 : decide (1 ≤ (gs.length : Int)) = true := by simp; omega
                have z2 : decide ((gs.length : Int) ≤ 4000) = true := by simp; omega
                rw [z1, z2] at hB
                simpa using hB
              · exact .inl z
            rcases hcase with z | z
            · have : isRow (.tup [a, b, .tup gs]) n = false := by
                by_cases z1 : 1 ≤ gs.length
                · have z2 : ¬ gs.length ≤ 4000 := fun q => z ⟨z1, q⟩
                  simp [isRow, z2]
                · simp [isRow, z1]
              rw [this]
            · have : isRow (.tup [a, b, .tup gs]) n = false := by simp only [isRow, z]; simp
              rw [this]
          have hall : (gs.all fun d => isNum d n) = true ∧ 1 ≤ gs.length ∧ gs.length ≤ 4000 := by
            simp only [Bool.or_eq_false_iff, Bool.not_eq_false', Bool.and_eq_true, decide_eq_true_eq] at hB
            exact ⟨hB.2, by omega, by omega⟩
          obtain ⟨ha2, g1, g2⟩ := hall
          obtain ⟨e1, e2⟩ := intsD_all ha2
          have p03 := pp.trans p3
          refine ws_ret (d := .bl (isRow (.tup [a, b, .tup gs]) n)) (pv_B (pv_U (hc.pre p03) (d := .int (nubI (intsD gs)).length) (pvo_iff fun s Q p => ?_)) (pv_len (hc.pre p03)) (pvo_iff fun s Q p => ?_)) fun s p4 => ⟨rfl, p03.trans p4⟩
          · have := Wo_lenSet (st := s) (ns := intsD gs) (Q := Q) (by omega)
            rw [← e1] at this
            exact this
          · rw [Wo_eqI]
            have : isRow (.tup [a, b, .tup gs]) n = decide (((nubI (intsD gs)).length : Int) = (gs.length : Int)) := by
              simp only [isRow, na, hB'.1, ha2, Bool.true_and]
              rw [decide_eq_true g1, decide_eq_true g2, Bool.true_and, Bool.true_and]
              exact decide_eq_decide.mpr (by omega)
            rw [this]
        | _ => cases hB'.2
    · refine ws_guard (B := true) (pv_or (B := false) (C := true) (pv_not t0) fun _ => pv_or (B := true) (C := true) (by
        have : (!decide ((ds.length : Int) = 3)) = true := by simp; omega
        rw [← this]
        exact l0) fun z => by cases z) (fun _ s p => ⟨?_, p⟩) fun z => by cases z
      unfold isRow
      split
      · rename_i a b gs h3
        cases h3
        exact absurd rfl hl
      · rfl
  | _ => exact ws_guard (B := true) (pv_or (B := true) (C := true) (pv_not t0) fun z => by cases z) (fun _ s p => ⟨rfl, p⟩) fun z => by cases z
end L_k09

set_option maxHeartbeats 4000000
/-! k09, plain law 3: games, sides, aims judged. -/
namespace L_k09
open PySem PyProof.Rows L2 S3
def We (d : FD) (ds : List D) (st : Sto) (c : Nat) : Prop := ∃ s, d ds st = some (.er c, s) ∧ Pre st s
theorem We_of {n c : Nat} {fs : FS} {ds : List D} {st : Sto} (h : Ws fs (ds.map some ++ List.replicate (n - ds.length) none) st fun r _ s => r = .er c ∧ Pre st s) : We (S3.fdOf n fs) ds st c := by
  obtain ⟨r, v, s, e, rfl, q⟩ := h
  exact ⟨s, by unfold S3.fdOf; rw [e], q⟩
theorem Ws_drop_er {n c : Nat} {dd : FD} {fr : F3 (List D)} {env : Env3} {st : Sto} {ds : List D} {Q : Fl → Env3 → Sto → Prop} (ha : PvA fr env st ds) (hn : ds.length = n) (hd : ∀ s, Pre st s → We dd ds s c) (h : ∀ s, Pre st s → Q (.er c) env s) : Ws (fDrop (fCall n dd fr)) env st Q := by
  obtain ⟨x, s1, e1, rfl, p1⟩ := ha st (Pre.refl st)
  obtain ⟨s2, e2, p2⟩ := hd s1 p1
  refine ⟨.er c, env, s2, ?_, h s2 (p1.trans p2)⟩
  have : fCall n dd fr env st = some (.er c, s2) := by
    unfold fCall bnd
    rw [e1]
    dsimp only
    rw [if_pos hn, e2]
  unfold fDrop eff
  rw [this]
theorem Ws_drop_ok {n : Nat} {dd : FD} {fr : F3 (List D)} {env : Env3} {st : Sto} {ds : List D} {d : D} {Q : Fl → Env3 → Sto → Prop} (ha : PvA fr env st ds) (hn : ds.length = n) (hd : ∀ s, Pre st s → Wd dd ds s fun r s' => r = d ∧ Pre s s') (h : ∀ s, Pre st s → Q .nx env s) : Ws (fDrop (fCall n dd fr)) env st Q := Ws_drop ((pv_call ha hn hd st (Pre.refl st)).mono fun x s hx => h s hx.2)
def isGame (x : D) : Bool := match x with
  | .tup [.str s, .tup rows] => (s == "game") && (decide (1 ≤ rows.length) && (decide (rows.length ≤ 20000) && rows.all fun r => isRow r rows.length))
  | _ => false
structure TdGame (st : Sto) (x : D) : Prop where
  t : Td st x
  a : ∀ ds, x = .tup ds → ∀ d ∈ ds, Td st d
  s : ∀ ds, x = .tup ds → ∀ z, .str z ∈ ds → PyData.strOk z = true
  r : ∀ ds, x = .tup ds → ∀ rs, .tup rs ∈ ds → ∀ r ∈ rs, TdRow st r
theorem TdGame.pre {st st' : Sto} {x : D} (h : TdGame st x) (p : Pre st st') : TdGame st' x := ⟨h.t.pre p, fun ds e d hd => (h.a ds e d hd).pre p, h.s, fun ds e rs hr r hrr => (h.r ds e rs hr r hrr).pre p⟩
theorem is_game_ok {st : Sto} {x : D} (h : TdGame st x) : Wd d_p_is_game [x] st fun r st' => r = .bl (isGame x) ∧ Pre st st' := by
  refine Wd_of ?_
  show Ws _ [some x, none] _ _
  unfold f_p_is_game
  have v0 : Pv (fVar 0) [some x, none] st x := pv_var rfl
  have t0 := pv_asB (pv_isTup v0 h.t)
  have hx := h.t
  cases hx with
  | tup ds =>
    have hd := h.a ds rfl
    have l0 := pv_neI (pv_len v0) (pv_ret (d := .int 2))
    by_cases hl : ds.length = 2
    · match ds, hl with
      | [a, b], _ =>
        have ha := pv_at 0 v0 (d := a) rfl
        have hb := pv_at 1 v0 (d := b) rfl
        have sa := pv_asB (pv_isStr ha (hd a (by simp)))
        have ta := hd a (by simp)
        -- the first test: no text, or another one
        have first : ∃ B : Bool, PvB (fOr (fNot (bnd (fArgs oIsi (fCons (fVar 0) (fCons (ret3 (.ty "tuple")) fNil))) asB)) (fOr (bnd (fB oNe (fArgs oLen (fCons (fVar 0) fNil)) (ret3 (.int 2))) asB) (fOr (fNot (bnd (fArgs oIsi (fCons (fB oIx (fVar 0) (ret3 (.int 0))) (fCons (ret3 (.ty "str")) fNil))) asB)) (bnd (fB oNe (fB oIx (fVar 0) (ret3 (.int 0))) (ret3 (.str "game"))) asB)))) [some (.tup [a, b]), none] st B ∧ (B = true → isGame (.tup [a, b]) = false) ∧ (B = false → a = .str "game") := by
          have rest : ∀ {C : Bool}, PvB (fOr (fNot (bnd (fArgs oIsi (fCons (fB oIx (fVar 0) (ret3 (.int 0))) (fCons (ret3 (.ty "str")) fNil))) asB)) (bnd (fB oNe (fB oIx (fVar 0) (ret3 (.int 0))) (ret3 (.str "game"))) asB)) [some (.tup [a, b]), none] st C → PvB (fOr (fNot (bnd (fArgs oIsi (fCons (fVar 0) (fCons (ret3 (.ty "tuple")) fNil))) asB)) (fOr (bnd (fB oNe (fArgs oLen (fCons (fVar 0) fNil)) (ret3 (.int 2))) asB) (fOr (fNot (bnd (fArgs oIsi (fCons (fB oIx (fVar 0) (ret3 (.int 0))) (fCons (ret3 (.ty "str")) fNil))) asB)) (bnd (fB oNe (fB oIx (fVar 0) (ret3 (.int 0))) (ret3 (.str "game"))) asB)))) [some (.tup [a, b]), none] st C := fun hC => pv_or (B := false) (pv_not t0) fun _ => pv_or (B := false) l0 fun _ => hC
          cases ta with
          | str z =>
            have ne := pv_asB (pv_B (o := oNe) (d := .bl (!(z == "game"))) ha (pv_ret (d := .str "game")) (pvo_iff fun s Q p => Wo_neStr (h.s _ rfl z (by simp)) (by decide +kernel)))
            refine ⟨!(z == "game"), rest (pv_or (B := false) (pv_not sa) fun _ => ne), fun hB => ?_, fun hB => ?_⟩
            · have : (z == "game") = false := by simpa using hB
              unfold isGame
              split
              · rename_i s rows e
                cases e
                rw [this]
                rfl
              · rfl
            · have : (z == "game") = true := by simpa using hB
              rw [eq_of_beq this]
          | _ => exact ⟨true, rest (pv_or (B := true) (C := true) (pv_not sa) fun z => by cases z), fun _ => rfl, fun z => by cases z⟩
        obtain ⟨B, h1, h2, h3⟩ := first
        refine ws_guard h1 (fun hB s p => ⟨by rw [h2 hB], p⟩) fun hB s p => ?_
        obtain rfl := h3 hB
        have tb := pv_asB (pv_isTup (hb.pre p) ((hd b (by simp)).pre p))
        cases hbt : isTupD b with
        | false =>
          rw [hbt] at tb
          refine ws_guard (B := true) (pv_or (B := true) (C := true) (pv_not tb) fun z => by cases z) (fun _ s2 p2 => ⟨?_, p.trans p2⟩) fun z => by cases z
          have : isGame (.tup [.str "game", b]) = false := by
            unfold isGame
            split
            · rename_i s rows e
              cases e
              cases hbt
            · rfl
          rw [this]
        | true =>
          rw [hbt] at tb
          cases b with
          | tup rows =>
            have lr := pv_len (hb.pre p)
            have ch := pv_chain (o1 := oLe) (o2 := oLe) (B := decide (1 ≤ (rows.length : Int))) (C := decide ((rows.length : Int) ≤ 20000)) (pv_ret (d := .int 1)) lr (pvo_iff fun s Q p => Wo_le) (fun _ => pv_ret (d := .int 20000)) (fun _ => pvo_iff fun s Q p => Wo_le)
            refine ws_guard (B := !(decide (1 ≤ (rows.length : Int)) && decide ((rows.length : Int) ≤ 20000))) (pv_or (B := false) (pv_not tb) fun _ => pv_not (pv_asB ch)) (fun hB2 s2 p2 => ⟨?_, p.trans p2⟩) fun hB2 s2 p2 => ?_
            · have : isGame (.tup [.str "game", .tup rows]) = false := by
                by_cases z1 : 1 ≤ rows.length
                · have z2 : ¬ rows.length ≤ 20000 := fun q => by
                    have e1 : decide (1 ≤ (rows.length : Int)) = true := by simp; omega
                    have e2 : decide ((rows.length : Int) ≤ 20000) = true := by simp; omega
                    rw [e1, e2] at hB2
                    cases hB2
                  simp [isGame, z2]
                · simp [isGame, z1]
              rw [this]
            · have hz : 1 ≤ rows.length ∧ rows.length ≤ 20000 := by
                simp only [Bool.not_eq_false', Bool.and_eq_true, decide_eq_true_eq] at hB2
                omega
              have pp := p.trans p2
              have al := pv_allT (n := loopN) (vs := [1]) (i := 1) (fe := fCall 2 d_p_is_row (fCons (fVar 1) (fCons (fArgs oLen (fCons (fB oIx (fVar 0) (ret3 (.int 1))) fNil)) fNil))) (G := fun r => isRow r rows.length) (hb.pre pp) (by omega) (lt_loop (by omega)) fun d hdm =>
                pv_call (ds := [d, .int rows.length]) (pv_cons (pv_var rfl) (pv_cons (pv_len (pv_at 1 (pv_var rfl) rfl)) pv_nil)) rfl fun s3 p3 => is_row_ok ((h.r _ rfl rows (by simp) d hdm).pre (pp.trans p3))
              have : isGame (.tup [.str "game", .tup rows]) = rows.all fun r => isRow r rows.length := by
                show (("game" : Str) == "game" && (decide (1 ≤ rows.length) && (decide (rows.length ≤ 20000) && rows.all fun r => isRow r rows.length))) = _
                rw [decide_eq_true hz.1, decide_eq_true hz.2, Bool.true_and, Bool.true_and, show (("game" : Str) == "game") = true by decide +kernel, Bool.true_and]
              exact ws_ret al fun s3 p3 => ⟨by rw [this], pp.trans p3⟩
          | _ => cases hbt
    · refine ws_guard (B := true) (pv_or (B := false) (C := true) (pv_not t0) fun _ => pv_or (B := true) (C := true) (by
        have : (!decide ((ds.length : Int) = 2)) = true := by simp; omega
        rw [← this]
        exact l0) fun z => by cases z) (fun _ s p => ⟨?_, p⟩) fun z => by cases z
      unfold isGame
      split
      · rename_i s rows h3
        cases h3
        exact absurd rfl hl
      · rfl
  | _ => exact ws_guard (B := true) (pv_or (B := true) (C := true) (pv_not t0) fun z => by cases z) (fun _ s p => ⟨rfl, p⟩) fun z => by cases z
theorem need_game_ok {st : Sto} {x : D} (h : TdGame st x) (hg : isGame x = true) : Wd d_p_need_game [x] st fun r st' => r = .non ∧ Pre st st' := by
  refine Wd_of ?_
  show Ws _ [some x] _ _
  unfold f_p_need_game
  refine ws_if (B := !isGame x) (pv_not (pv_asB (pv_call (ds := [x]) (pv_cons (pv_var rfl) pv_nil) rfl fun s p => is_game_ok (h.pre p)))) fun s p => ?_
  rw [hg]
  exact (if_neg (by simp)).mpr (Ws_nop.mpr ⟨rfl, p⟩)
theorem need_game_er {st : Sto} {x : D} (h : TdGame st x) (hg : isGame x = false) : We d_p_need_game [x] st 2 := by
  refine We_of ?_
  show Ws _ [some x] _ _
  unfold f_p_need_game
  refine ws_if (B := !isGame x) (pv_not (pv_asB (pv_call (ds := [x]) (pv_cons (pv_var rfl) pv_nil) rfl fun s p => is_game_ok (h.pre p)))) fun s p => ?_
  rw [hg]
  exact (if_pos (by simp)).mpr (Ws_now.mpr ⟨rfl, p⟩)
theorem need_side_ok {st : Sto} {x : D} (h : Td st x) (hg : isNum x 2 = true) : Wd d_p_need_side [x] st fun r st' => r = .non ∧ Pre st st' := by
  refine Wd_of ?_
  show Ws _ [some x] _ _
  unfold f_p_need_side
  refine ws_if (B := !isNum x 2) (pv_not (pv_asB (pv_num (pv_var rfl) h pv_ret))) fun s p => ?_
  rw [hg]
  exact (if_neg (by simp)).mpr (Ws_nop.mpr ⟨rfl, p⟩)
theorem need_side_er {st : Sto} {x : D} (h : Td st x) (hg : isNum x 2 = false) : We d_p_need_side [x] st 3 := by
  refine We_of ?_
  show Ws _ [some x] _ _
  unfold f_p_need_side
  refine ws_if (B := !isNum x 2) (pv_not (pv_asB (pv_num (pv_var rfl) h pv_ret))) fun s p => ?_
  rw [hg]
  exact (if_pos (by simp)).mpr (Ws_now.mpr ⟨rfl, p⟩)
/-! ### aims -/
def incr (l : List Int) : Bool := (l.zip (l.drop 1)).all fun p => decide (p.1 < p.2)
def areAims (x : D) (n : Int) : Bool := match x with
  | .tup ds => ds.all (fun d => isNum d n) && incr (intsD ds)
  | _ => false
def TdAims (st : Sto) (x : D) : Prop := Td st x ∧ ∀ ds, x = .tup ds → ds.length ≤ 1000 ∧ ∀ d ∈ ds, Td st d
theorem TdAims.pre {st st' : Sto} {x : D} (h : TdAims st x) (p : Pre st st') : TdAims st' x := ⟨h.1.pre p, fun ds e => ⟨(h.2 ds e).1, fun d hd => ((h.2 ds e).2 d hd).pre p⟩⟩
theorem are_aims_ok {st : Sto} {x : D} {n : Int} (h : TdAims st x) : Wd d_p_are_aims [x, .int n] st fun r st' => r = .bl (areAims x n) ∧ Pre st st' := by
  refine Wd_of ?_
  show Ws _ [some x, some (.int n), none, none, none] _ _
  unfold f_p_are_aims
  obtain ⟨hx, hp⟩ := h
  have v0 : Pv (fVar 0) [some x, some (.int n), none, none, none] st x := pv_var rfl
  have t0 := pv_asB (pv_isTup v0 hx)
  cases hx with
  | tup ds =>
    obtain ⟨hl, hd⟩ := hp ds rfl
    refine ws_guard (B := !(ds.all fun d => isNum d n)) (pv_or (B := false) (pv_not t0) fun _ => pv_not (pv_asB (pv_allT v0 (by omega) (lt_loop (by omega)) fun d hdm => pv_num (pv_var rfl) (hd d hdm) (pv_var rfl)))) (fun hB s p => ⟨?_, p⟩) fun hB s p => ?_
    · have : (ds.all fun d => isNum d n) = false := by simpa using hB
      show D.bl false = D.bl ((ds.all fun d => isNum d n) && incr (intsD ds))
      rw [this]
      rfl
    · have ha : (ds.all fun d => isNum d n) = true := by simpa using hB
      obtain ⟨e1, e2⟩ := intsD_all ha
      have res : areAims (.tup ds) n = incr (intsD ds) := by
        show ((ds.all fun d => isNum d n) && incr (intsD ds)) = _
        rw [ha]
        rfl
      refine Ws_ret ?_
      rw [Ok_fArgs, Ok_fCons]
      refine Ok_lcP (Ok_overZ ?_)
      simp only [Ok_fCons, Ok_fSl, Ok_var0, Ok_bnd, Ok_ret, Ok_asI, D.int.injEq, exists_eq_left', Wo_slT, Ok_fNil]
      refine ⟨ds, ds.drop 1, by rw [show (1 : Int) = ((1 : Nat) : Int) by rfl, cut_drop], ((intsD ds).zip ((intsD ds).drop 1)).map (fun p => .tup [.int p.1, .int p.2]), fun _ => true, fun d => match d with
        | .tup [.int a, .int b] => .bl (decide (a < b))
        | d => d, lt_loop ?_, ?_, fun s i _ => ?_, fun d s2 hdm p2 => ?_, fun s2 p2 hs => ?_⟩
      · simp
        omega
      · simp
        omega
      · show some _ = some _
        congr 1
        conv => lhs; rw [e1]
        rw [List.getElem?_map]
        simp only [List.map_drop.symm, List.getElem?_map, List.getElem?_drop, List.getElem?_zip_eq_some, List.zip_eq_zipWith, List.getElem?_zipWith]
        cases (intsD ds)[i]? <;> cases (intsD ds)[1 + i]? <;> rfl
      · obtain ⟨⟨a, b⟩, _, rfl⟩ := List.mem_map.mp hdm
        refine ⟨[some (.tup ds), some (.int n), some (.int a), some (.int b), none], ?_, ?_⟩
        · rfl
        · simp only [Ok_ret, Ok_fB, Ok_varS, Ok_var0, Wo_lt]
          exact ⟨trivial, Pre.refl _, fun _ => ⟨trivial, Pre.refl _⟩⟩
      · rw [S3.filter_all, List.map_map] at hs
        have e3 : (((intsD ds).zip ((intsD ds).drop 1)).map ((fun d => match d with
          | D.tup [D.int a, D.int b] => D.bl (decide (a < b))
          | d => d) ∘ fun p => D.tup [D.int p.1, D.int p.2])) = (((intsD ds).zip ((intsD ds).drop 1)).map fun p => decide (p.1 < p.2)).map D.bl := by
          rw [List.map_map]
          rfl
        rw [e3] at hs
        rw [Wo_all hs]
        refine ⟨?_, p.trans p2⟩
        rw [res, List.all_map]
        rfl
  | _ => exact ws_guard (B := true) (pv_or (B := true) (C := true) (pv_not t0) fun z => by cases z) (fun _ s p => ⟨rfl, p⟩) fun z => by cases z
end L_k09

set_option maxHeartbeats 4000000
/-! k09, plain law 4: the pure search, its invariant and what it ends with. -/
namespace L_k09
section
variable (n : Nat) (gl : Nat → List Nat) (own : Nat → Bool) (aims : List Nat)
abbrev St9 := List (Nat × Nat)
def nms (S : St9) : List Nat := S.map (·.1)
theorem nms_len {S : St9} : (nms S).length = S.length := List.length_map ..
theorem nms_get {S : St9} {k : Nat} (h : k < (nms S).length) : (nms S)[k] = (S[k]'(by rw [nms_len] at h; exact h)).1 := List.getElem_map ..
theorem nms_app {S T : St9} : nms (S ++ T) = nms S ++ nms T := List.map_append ..
structure Core (S : St9) : Prop where
  nd : (nms S).Nodup
  lt : ∀ p ∈ S, p.1 < n
  sorted : S.Pairwise fun p q => p.2 ≤ q.2
  idx : ∀ (k : Nat) (p : Nat × Nat), S[k]? = some p → p.2 ≤ k
  zero : ∀ p ∈ S, p.2 = 0 → p.1 ∈ aims
  aim : ∀ a ∈ aims, (a, 0) ∈ S
  own1 : ∀ p ∈ S, p.1 ∉ aims → own p.1 = true → (∃ g ∈ gl p.1, ∃ u, (g, u) ∈ S ∧ u + 1 = p.2) ∧ ∀ g ∈ gl p.1, ∀ u, (g, u) ∈ S → p.2 ≤ u + 1
  oth : ∀ p ∈ S, p.1 ∉ aims → own p.1 = false → (∃ g ∈ gl p.1, ∃ u, (g, u) ∈ S ∧ u + 1 = p.2) ∧ ∀ g ∈ gl p.1, ∃ u, (g, u) ∈ S ∧ u + 1 ≤ p.2
def cnt (S : St9) (i : Nat) (js : List Nat) (r : Nat) : Nat := (gl r).countP (fun g => decide (g ∈ nms (S.take i))) + (if r ∈ js then 1 else 0)
structure Head9 (S : St9) (i : Nat) : Prop where
  core : Core n gl own aims S
  le : i ≤ S.length
  top : ∀ q : Nat × Nat, S[i]? = some q → ∀ p ∈ S, p.2 ≤ q.2 + 1
  clo : ∀ r, r < n → r ∉ nms S → own r = true → ∀ g ∈ gl r, g ∉ nms (S.take i)
  clo' : ∀ r, r < n → r ∉ nms S → own r = false → cnt gl S i [] r < (gl r).length
structure At9 (S : St9) (i : Nat) (js : List Nat) (g0 v0 : Nat) : Prop where
  core : Core n gl own aims S
  hi : S[i]? = some (g0, v0)
  top : ∀ p ∈ S, p.2 ≤ v0 + 1
  clo : ∀ r, r < n → r ∉ nms S → own r = true → (∀ g ∈ gl r, g ∉ nms (S.take i)) ∧ r ∉ js
  clo' : ∀ r, r < n → r ∉ nms S → own r = false → cnt gl S i js r < (gl r).length
variable {n gl own aims}
theorem At9.of {S : St9} {i g0 v0 : Nat} (h : Head9 n gl own aims S i) (hi : S[i]? = some (g0, v0)) : At9 n gl own aims S i [] g0 v0 :=
  ⟨h.core, hi, h.top _ hi, fun r h1 h2 h3 => ⟨h.clo r h1 h2 h3, by simp⟩, h.clo'⟩
theorem take_app {S : St9} {x : Nat × Nat} {i : Nat} (h : i ≤ S.length) : (S ++ [x]).take i = S.take i := List.take_append_of_le_length h
theorem sorted_ge {S : St9} (h : S.Pairwise fun p q => p.2 ≤ q.2) {i : Nat} {q p : Nat × Nat} (hi : S[i]? = some q) (hp : p ∈ S) (hn : p ∉ S.take i) : q.2 ≤ p.2 := by
  obtain ⟨k, hk, e⟩ := List.mem_iff_getElem.mp hp
  have hik : i ≤ k := by
    refine Nat.le_of_not_lt fun z => hn ?_
    rw [← e]
    exact List.mem_take_iff_getElem.mpr ⟨k, by omega, rfl⟩
  obtain ⟨hi2, e2⟩ := List.getElem?_eq_some_iff.mp hi
  rcases Nat.eq_or_lt_of_le hik with z | z
  · subst z
    rw [← e, e2]
    exact Nat.le_refl _
  · have := List.pairwise_iff_getElem.mp h i k hi2 hk z
    rw [e2, e] at this
    exact this
theorem sorted_le {S : St9} (h : S.Pairwise fun p q => p.2 ≤ q.2) {i : Nat} {q p : Nat × Nat} (hi : S[i]? = some q) (hp : p ∈ S.take i) : p.2 ≤ q.2 := by
  obtain ⟨k, hk, e⟩ := List.mem_take_iff_getElem.mp hp
  obtain ⟨hi2, e2⟩ := List.getElem?_eq_some_iff.mp hi
  have := List.pairwise_iff_getElem.mp h k i (by omega) hi2 (by omega)
  rw [e2] at this
  rw [← e]
  exact this
theorem nms_mem {S : St9} {g u : Nat} (h : (g, u) ∈ S) : g ∈ nms S := List.mem_map_of_mem h
theorem nms_ex {S : St9} {g : Nat} (h : g ∈ nms S) : ∃ u, (g, u) ∈ S := by
  obtain ⟨⟨a, u⟩, h1, rfl⟩ := List.mem_map.mp h
  exact ⟨u, h1⟩
theorem nms_take {S : St9} {i g u : Nat} (nd : (nms S).Nodup) (h : (g, u) ∈ S) (h2 : g ∈ nms (S.take i)) : (g, u) ∈ S.take i := by
  obtain ⟨w, hw⟩ := nms_ex h2
  have hw' : (g, w) ∈ S := List.mem_of_mem_take hw
  have : u = w := by
    obtain ⟨a, ha, ea⟩ := List.mem_iff_getElem.mp h
    obtain ⟨b, hb, eb⟩ := List.mem_iff_getElem.mp hw'
    have e : a = b := by
      refine (List.getElem_inj (h₀ := by rw [nms_len]; exact ha) (h₁ := by rw [nms_len]; exact hb) nd).mp ?_
      rw [nms_get, nms_get, ea, eb]
    subst e
    rw [ea] at eb
    exact (Prod.mk.inj eb).2
  rw [this]
  exact hw
theorem val_unique {S : St9} {g u w : Nat} (nd : (nms S).Nodup) (h : (g, u) ∈ S) (h2 : (g, w) ∈ S) : u = w := by
  obtain ⟨a, ha, ea⟩ := List.mem_iff_getElem.mp h
  obtain ⟨b, hb, eb⟩ := List.mem_iff_getElem.mp h2
  have e : a = b := by
    refine (List.getElem_inj (h₀ := by rw [nms_len]; exact ha) (h₁ := by rw [nms_len]; exact hb) nd).mp ?_
    rw [nms_get, nms_get, ea, eb]
  subst e
  rw [ea] at eb
  exact (Prod.mk.inj eb).2
theorem countP_all {l : List Nat} {P : Nat → Bool} (h : l.countP P = l.length) : ∀ g ∈ l, P g = true := List.countP_eq_length.mp h
/-- a row that is met and not taken in -/
theorem At9.skip {S : St9} {i g0 v0 r : Nat} {js : List Nat} (h : At9 n gl own aims S i js g0 v0) (hj : r ∉ js) (hno : r ∈ nms S ∨ (own r = false ∧ cnt gl S i (js ++ [r]) r < (gl r).length)) : At9 n gl own aims S i (js ++ [r]) g0 v0 := by
  refine ⟨h.core, h.hi, h.top, fun q h1 h2 h3 => ⟨(h.clo q h1 h2 h3).1, fun z => ?_⟩, fun q h1 h2 h3 => ?_⟩
  · rcases List.mem_append.mp z with z | z
    · exact (h.clo q h1 h2 h3).2 z
    · rw [List.mem_singleton.mp z] at h2 h3
      rcases hno with k | k
      · exact h2 k
      · rw [k.1] at h3
        cases h3
  · by_cases e : q = r
    · subst e
      rcases hno with k | k
      · exact absurd k h2
      · exact k.2
    · have := h.clo' q h1 h2 h3
      unfold cnt at this ⊢
      have e2 : (q ∈ js ++ [r]) ↔ q ∈ js := by simp [e]
      simp only [e2]
      exact this
/-- a row that is met and taken in -/
theorem At9.take {S : St9} {i g0 v0 r : Nat} {js : List Nat} (h : At9 n gl own aims S i js g0 v0) (hr : r < n) (hg : g0 ∈ gl r) (hj : r ∉ js) (hS : r ∉ nms S) (hy : own r = true ∨ cnt gl S i (js ++ [r]) r = (gl r).length) : At9 n gl own aims (S ++ [(r, v0 + 1)]) i (js ++ [r]) g0 v0 := by
  have hil : i < S.length := (List.getElem?_eq_some_iff.mp h.hi).1
  have hg0 : (g0, v0) ∈ S := List.mem_of_getElem? h.hi
  have tk : (S ++ [(r, v0 + 1)]).take i = S.take i := take_app (by omega)
  have nm : nms (S ++ [(r, v0 + 1)]) = nms S ++ [r] := by simp [nms]
  have c := h.core
  have ra : r ∉ aims := fun z => hS (nms_mem (c.aim r z))
  have up : ∀ {g u}, (g, u) ∈ S → (g, u) ∈ S ++ [(r, v0 + 1)] := fun z => List.mem_append_left _ z
  have split : ∀ {p : Nat × Nat}, p ∈ S ++ [(r, v0 + 1)] → p ∈ S ∨ p = (r, v0 + 1) := fun z => by
    rcases List.mem_append.mp z with z | z
    · exact .inl z
    · exact .inr (List.mem_singleton.mp z)
  refine ⟨⟨?_, ?_, ?_, ?_, ?_, ?_, ?_, ?_⟩, ?_, ?_, ?_, ?_⟩
  · rw [nm, List.nodup_append]
    exact ⟨c.nd, by simp, fun a ha b hb => by rw [List.mem_singleton.mp hb]; exact fun z => hS (z ▸ ha)⟩
  · intro p hp
    rcases split hp with z | rfl
    · exact c.lt p z
    · exact hr
  · rw [List.pairwise_append]
    exact ⟨c.sorted, by simp, fun a ha b hb => by rw [List.mem_singleton.mp hb]; exact h.top a ha⟩
  · intro k p hk
    by_cases z : k < S.length
    · rw [List.getElem?_append_left z] at hk
      exact c.idx k p hk
    · rw [List.getElem?_append_right (by omega)] at hk
      cases e : k - S.length with
      | zero =>
        rw [e] at hk
        cases hk
        have := c.idx i _ h.hi
        simp only at this ⊢
        omega
      | succ m =>
        rw [e] at hk
        cases hk
  · intro p hp hz
    rcases split hp with z | rfl
    · exact c.zero p z hz
    · cases hz
  · exact fun a ha => up (c.aim a ha)
  · intro p hp h1 h2
    rcases split hp with z | rfl
    · obtain ⟨⟨g, k1, u, k2, k3⟩, k4⟩ := c.own1 p z h1 h2
      refine ⟨⟨g, k1, u, up k2, k3⟩, fun g hg u hu => ?_⟩
      rcases split hu with y | y
      · exact k4 g hg u y
      · cases y
        have := h.top p z
        omega
    · refine ⟨⟨g0, hg, v0, up hg0, rfl⟩, fun g hg u hu => ?_⟩
      rcases split hu with y | y
      · have q1 := (h.clo r hr hS h2).1 g hg
        have := sorted_ge c.sorted h.hi y fun w => q1 (nms_mem w)
        simp only at this ⊢
        omega
      · cases y
        simp only
        omega
  · intro p hp h1 h2
    rcases split hp with z | rfl
    · obtain ⟨⟨g, k1, u, k2, k3⟩, k4⟩ := c.oth p z h1 h2
      exact ⟨⟨g, k1, u, up k2, k3⟩, fun g hg => by
        obtain ⟨u, y1, y2⟩ := k4 g hg
        exact ⟨u, up y1, y2⟩⟩
    · refine ⟨⟨g0, hg, v0, up hg0, rfl⟩, fun g hg' => ?_⟩
      have hc : cnt gl S i (js ++ [r]) r = (gl r).length := by
        rcases hy with y | y
        · rw [y] at h2
          cases h2
        · exact y
      by_cases e : g = g0
      · subst e
        exact ⟨v0, up hg0, Nat.le_refl _⟩
      · have : g ∈ nms (S.take i) := by
          refine Decidable.byContradiction fun hn => ?_
          -- two goals that do not count
          have nd0 : g0 ∉ nms (S.take i) := fun y => by
            have := nms_take c.nd hg0 y
            obtain ⟨k, hk, ek⟩ := List.mem_take_iff_getElem.mp this
            obtain ⟨hi2, ei⟩ := List.getElem?_eq_some_iff.mp h.hi
            have hki : k < i := by omega
            have : k = i := by
              refine (List.getElem_inj (h₀ := by rw [nms_len]; omega) (h₁ := by rw [nms_len]; omega) c.nd).mp ?_
              rw [nms_get, nms_get, ek, ei]
            omega
          have hlt : (gl r).countP (fun g => decide (g ∈ nms (S.take i))) + 1 < (gl r).length := by
            obtain ⟨l1, l2, el⟩ := List.append_of_mem hg'
            have hg2 : g0 ∈ l1 ∨ g0 ∈ l2 := by
              have := hg
              rw [el] at this
              rcases List.mem_append.mp this with y | y
              · exact .inl y
              · rcases List.mem_cons.mp y with y | y
                · exact absurd y.symm e
                · exact .inr y
            have lt_of : ∀ {l : List Nat}, g0 ∈ l → l.countP (fun g => decide (g ∈ nms (S.take i))) < l.length := fun {l} hl => by
              refine Nat.lt_of_le_of_ne (List.countP_le_length) fun y => ?_
              have := countP_all y g0 hl
              exact nd0 (by simpa using this)
            have le_of : ∀ {l : List Nat}, l.countP (fun g => decide (g ∈ nms (S.take i))) ≤ l.length := fun {l} => List.countP_le_length
            rw [el, List.countP_append, List.countP_cons, List.length_append, List.length_cons]
            have hf : (if decide (g ∈ nms (S.take i)) = true then 1 else 0) = 0 := by simp [hn]
            rw [hf]
            rcases hg2 with y | y
            · have a1 := lt_of y
              have a2 := le_of (l := l2)
              omega
            · have a1 := lt_of y
              have a2 := le_of (l := l1)
              omega
          unfold cnt at hc
          rw [if_pos (by simp)] at hc
          omega
        obtain ⟨u, hu⟩ := nms_ex this
        have := sorted_le c.sorted h.hi hu
        exact ⟨u, up (List.mem_of_mem_take hu), by simp only at this ⊢; omega⟩
  · rw [List.getElem?_append_left hil]
    exact h.hi
  · intro p hp
    rcases split hp with z | rfl
    · exact h.top p z
    · exact Nat.le_refl _
  · intro q h1 h2 h3
    rw [nm] at h2
    have hq : q ∉ nms S := fun z => h2 (List.mem_append_left _ z)
    have hqr : q ≠ r := fun z => h2 (by rw [z]; simp)
    rw [tk]
    exact ⟨(h.clo q h1 hq h3).1, fun z => by
      rcases List.mem_append.mp z with z | z
      · exact (h.clo q h1 hq h3).2 z
      · exact hqr (List.mem_singleton.mp z)⟩
  · intro q h1 h2 h3
    rw [nm] at h2
    have hq : q ∉ nms S := fun z => h2 (List.mem_append_left _ z)
    have hqr : q ≠ r := fun z => h2 (by rw [z]; simp)
    have := h.clo' q h1 hq h3
    unfold cnt at this ⊢
    have e2 : (q ∈ js ++ [r]) ↔ q ∈ js := by simp [hqr]
    rw [tk]
    simp only [e2]
    exact this
/-- all rows behind a goal are met: on to the next -/
theorem At9.next {S : St9} {i g0 v0 : Nat} {js : List Nat} (h : At9 n gl own aims S i js g0 v0) (hall : ∀ r, r < n → (g0 ∈ gl r ↔ r ∈ js)) (hnd : ∀ r, r < n → (gl r).Nodup) : Head9 n gl own aims S (i + 1) ∧ ∀ r, r < n → cnt gl S (i + 1) [] r = cnt gl S i js r := by
  have c := h.core
  obtain ⟨hi2, ei⟩ := List.getElem?_eq_some_iff.mp h.hi
  have tk : nms (S.take (i + 1)) = nms (S.take i) ++ [g0] := by
    rw [List.take_add_one, h.hi]
    simp [nms]
  have n0 : g0 ∉ nms (S.take i) := fun y => by
    have nd2 : (nms (S.take (i + 1))).Nodup := c.nd.sublist ((List.take_sublist _ _).map _)
    rw [tk, List.nodup_append] at nd2
    exact nd2.2.2 g0 y g0 (by simp) rfl
  have cc : ∀ r, r < n → cnt gl S (i + 1) [] r = cnt gl S i js r := fun r hr => by
    unfold cnt
    rw [tk]
    simp only [List.not_mem_nil, if_false, Nat.add_zero]
    have key : ∀ l : List Nat, l.Nodup → l.countP (fun g => decide (g ∈ nms (S.take i) ++ [g0])) = l.countP (fun g => decide (g ∈ nms (S.take i))) + (if g0 ∈ l then 1 else 0) := fun l => by
      induction l with
      | nil => intro _; rfl
      | cons a l ih =>
        intro nd
        obtain ⟨h1, h2⟩ := List.nodup_cons.mp nd
        rw [List.countP_cons, List.countP_cons, ih h2]
        by_cases e : a = g0
        · subst e
          simp [n0, h1]
        · have e' : ¬ g0 = a := fun z => e z.symm
          by_cases m : a ∈ nms (S.take i)
          · simp [m, e, e']
            omega
          · simp [m, e, e']
    rw [key _ (hnd r hr)]
    have e3 := hall r hr
    by_cases m : r ∈ js
    · rw [if_pos (e3.mpr m), if_pos m]
    · rw [if_neg (fun z => m (e3.mp z)), if_neg m]
  refine ⟨⟨c, by omega, fun q hq p hp => ?_, fun r h1 h2 h3 g hg => ?_, fun r h1 h2 h3 => ?_⟩, cc⟩
  · have t := h.top p hp
    have hq2 : q ∈ S := List.mem_of_getElem? hq
    have : q ∉ S.take i := fun z => by
      obtain ⟨k, hk, ek⟩ := List.mem_take_iff_getElem.mp z
      obtain ⟨hq3, eq⟩ := List.getElem?_eq_some_iff.mp hq
      have : k = i + 1 := by
        refine (List.getElem_inj (h₀ := by rw [nms_len]; omega) (h₁ := by rw [nms_len]; exact hq3) c.nd).mp ?_
        rw [nms_get, nms_get, ek, eq]
      omega
    have := sorted_ge c.sorted h.hi hq2 this
    simp only at this
    omega
  · rw [tk]
    have k := h.clo r h1 h2 h3
    intro z
    rcases List.mem_append.mp z with z | z
    · exact k.1 g hg z
    · rw [List.mem_singleton.mp z] at hg
      exact k.2 ((hall r h1).mp hg)
  · rw [cc r h1]
    exact h.clo' r h1 h2 h3
/-- what a row is due -/
structure Sol (f : Nat → Option Nat) : Prop where
  sAim : ∀ a, a < n → a ∈ aims → f a = some 0
  sOwn : ∀ r, r < n → r ∉ aims → own r = true → (∀ g ∈ gl r, f g = none) ∧ f r = none ∨ ∃ v, f r = some (v + 1) ∧ (∃ g ∈ gl r, f g = some v) ∧ ∀ g ∈ gl r, ∀ u, f g = some u → v ≤ u
  sOth : ∀ r, r < n → r ∉ aims → own r = false → (∃ g ∈ gl r, f g = none) ∧ f r = none ∨ ∃ v, f r = some (v + 1) ∧ (∃ g ∈ gl r, f g = some v) ∧ ∀ g ∈ gl r, ∃ u, f g = some u ∧ u ≤ v
end
end L_k09

set_option maxHeartbeats 4000000
/-! k09, plain law 5: the search's begin, its end, that there is one solution. -/
namespace L_k09
section
variable {n : Nat} {gl : Nat → List Nat} {own : Nat → Bool} {aims : List Nat}
def look (S : St9) (r : Nat) : Option Nat := (S.find? fun p => decide (p.1 = r)).map (·.2)
theorem look_some {S : St9} {r v : Nat} (nd : (nms S).Nodup) : look S r = some v ↔ (r, v) ∈ S := by
  constructor
  · intro h
    unfold look at h
    cases e : S.find? fun p => decide (p.1 = r) with
    | none => rw [e] at h; cases h
    | some p =>
      rw [e] at h
      cases h
      have h1 := List.find?_some e
      have h2 := List.mem_of_find?_eq_some e
      have h3 : p.1 = r := by simpa using h1
      rw [← h3]
      exact h2
  · intro h
    unfold look
    cases e : S.find? fun p => decide (p.1 = r) with
    | none =>
      have := List.find?_eq_none.mp e _ h
      simp at this
    | some p =>
      have h1 := List.find?_some e
      have h2 := List.mem_of_find?_eq_some e
      have h3 : p.1 = r := by simpa using h1
      show some p.2 = some v
      have h4 : (r, p.2) ∈ S := by rw [← h3]; exact h2
      rw [val_unique nd h4 h]
theorem look_none {S : St9} {r : Nat} : look S r = none ↔ r ∉ nms S := by
  unfold look
  rw [Option.map_eq_none_iff, List.find?_eq_none]
  constructor
  · intro h z
    obtain ⟨u, hu⟩ := nms_ex z
    have := h _ hu
    simp at this
  · intro h p hp z
    have : p.1 = r := by simpa using z
    exact h (by rw [← this]; exact nms_mem (u := p.2) hp)
theorem head_start (nd : aims.Nodup) (lt : ∀ a ∈ aims, a < n) (hne : ∀ r, r < n → gl r ≠ []) : Head9 n gl own aims (aims.map fun a => (a, 0)) 0 := by
  have nm : nms (aims.map fun a => (a, 0)) = aims := by
    unfold nms
    rw [List.map_map]
    exact List.map_id _
  have val : ∀ p ∈ (aims.map fun a => (a, 0) : St9), p.2 = 0 ∧ p.1 ∈ aims := fun p hp => by
    obtain ⟨a, ha, rfl⟩ := List.mem_map.mp hp
    exact ⟨rfl, ha⟩
  refine ⟨⟨by rw [nm]; exact nd, fun p hp => lt _ (val p hp).2, ?_, fun k p hk => ?_, fun p hp _ => (val p hp).2, fun a ha => List.mem_map.mpr ⟨a, ha, rfl⟩, fun p hp h1 => absurd (val p hp).2 h1, fun p hp h1 => absurd (val p hp).2 h1⟩, Nat.zero_le _, fun q hq p hp => ?_, fun r h1 h2 h3 g hg => ?_, fun r h1 h2 h3 => ?_⟩
  · rw [List.pairwise_map]
    exact List.pairwise_iff_getElem.mpr fun _ _ _ _ _ => Nat.le_refl _
  · have := val p (List.mem_of_getElem? hk)
    omega
  · have := val p hp
    omega
  · simp [nms]
  · unfold cnt
    have e : (gl r).countP (fun g => decide (g ∈ nms ((aims.map fun a => (a, 0) : St9).take 0))) = 0 := by
      rw [List.countP_eq_zero]
      intro g _
      simp [nms]
    rw [e, if_neg (by simp)]
    exact List.length_pos_iff.mpr (hne r h1)
theorem head_end {S : St9} (h : Head9 n gl own aims S S.length) : Sol (n := n) (gl := gl) (own := own) (aims := aims) (look S) := by
  have c := h.core
  have tk : S.take S.length = S := List.take_length
  refine ⟨fun a _ ha => (look_some c.nd).mpr (c.aim a ha), fun r h1 h2 h3 => ?_, fun r h1 h2 h3 => ?_⟩
  · by_cases z : r ∈ nms S
    · obtain ⟨w, hw⟩ := nms_ex z
      obtain ⟨⟨g, g1, u, g2, g3⟩, g4⟩ := c.own1 _ hw h2 h3
      simp only at g3 g4
      exact .inr ⟨u, by rw [g3]; exact (look_some c.nd).mpr hw, ⟨g, g1, (look_some c.nd).mpr g2⟩, fun g hg v hv => by
        have := g4 g hg v ((look_some c.nd).mp hv)
        omega⟩
    · exact .inl ⟨fun g hg => look_none.mpr (by have := h.clo r h1 z h3 g hg; rwa [tk] at this), look_none.mpr z⟩
  · by_cases z : r ∈ nms S
    · obtain ⟨w, hw⟩ := nms_ex z
      obtain ⟨⟨g, g1, u, g2, g3⟩, g4⟩ := c.oth _ hw h2 h3
      simp only at g3 g4
      exact .inr ⟨u, by rw [g3]; exact (look_some c.nd).mpr hw, ⟨g, g1, (look_some c.nd).mpr g2⟩, fun g hg => by
        obtain ⟨v, v1, v2⟩ := g4 g hg
        exact ⟨v, (look_some c.nd).mpr v1, by omega⟩⟩
    · refine .inl ⟨?_, look_none.mpr z⟩
      refine Classical.byContradiction fun hno => ?_
      have hc := h.clo' r h1 z h3
      unfold cnt at hc
      rw [tk] at hc
      simp only [List.not_mem_nil, if_false, Nat.add_zero] at hc
      have : (gl r).countP (fun g => decide (g ∈ nms S)) = (gl r).length := List.countP_eq_length.mpr fun g hg => by
        rw [decide_eq_true_eq]
        refine Decidable.byContradiction fun k => hno ⟨g, hg, look_none.mpr k⟩
      omega
theorem val_lt {S : St9} (c : Core n gl own aims S) {r v : Nat} (h : (r, v) ∈ S) : v < n := by
  obtain ⟨k, hk, e⟩ := List.mem_iff_getElem.mp h
  have h1 := c.idx k (r, v) (by rw [List.getElem?_eq_getElem hk, e])
  have h2 : (nms S).length ≤ (List.range n).length := S3.len_le_of c.nd fun x hx => by
    obtain ⟨u, hu⟩ := nms_ex hx
    exact List.mem_range.mpr (c.lt _ hu)
  rw [nms_len, List.length_range] at h2
  simp only at h1
  omega
theorem sol_step {f h : Nat → Option Nat} (sf : Sol (n := n) (gl := gl) (own := own) (aims := aims) f) (sh : Sol (n := n) (gl := gl) (own := own) (aims := aims) h) (hgl : ∀ r, r < n → ∀ g ∈ gl r, g < n) (v : Nat) (ih : ∀ u, u < v → ∀ r, r < n → (f r = some u ↔ h r = some u)) (r : Nat) (hr : r < n) (e : f r = some v) : h r = some v := by
  by_cases ha : r ∈ aims
  · rw [sf.sAim r hr ha] at e
    rw [sh.sAim r hr ha]
    exact e
  · cases ho : own r with
    | true =>
      rcases sf.sOwn r hr ha ho with ⟨_, z⟩ | ⟨w, e1, ⟨g, g1, g2⟩, g3⟩
      · rw [z] at e
        cases e
      · rw [e1] at e
        cases e
        have hg := (ih w (Nat.lt_succ_self _) g (hgl r hr g g1)).mp g2
        rcases sh.sOwn r hr ha ho with ⟨z, _⟩ | ⟨x, x1, ⟨g', x2, x3⟩, x4⟩
        · rw [z g g1] at hg
          cases hg
        · have le := x4 g g1 w hg
          rcases Nat.eq_or_lt_of_le le with y | y
          · rw [x1, y]
          · have := g3 g' x2 x ((ih x (by omega) g' (hgl r hr g' x2)).mpr x3)
            omega
    | false =>
      rcases sf.sOth r hr ha ho with ⟨_, z⟩ | ⟨w, e1, ⟨g, g1, g2⟩, g3⟩
      · rw [z] at e
        cases e
      · rw [e1] at e
        cases e
        have all : ∀ g ∈ gl r, ∃ u, f g = some u ∧ h g = some u ∧ u ≤ w := fun g hg => by
          obtain ⟨u, u1, u2⟩ := g3 g hg
          exact ⟨u, u1, (ih u (by omega) g (hgl r hr g hg)).mp u1, u2⟩
        rcases sh.sOth r hr ha ho with ⟨⟨g', z1, z2⟩, _⟩ | ⟨x, x1, ⟨g', x2, x3⟩, x4⟩
        · obtain ⟨u, _, u2, _⟩ := all g' z1
          rw [z2] at u2
          cases u2
        · obtain ⟨u, _, u2, u3⟩ := all g' x2
          rw [x3] at u2
          cases u2
          obtain ⟨y, y1, y2⟩ := x4 g g1
          obtain ⟨u', a1, a2, _⟩ := all g g1
          rw [g2] at a1
          cases a1
          rw [y1] at a2
          cases a2
          have : x = w := by omega
          rw [x1, this]
theorem sol_unique {f h : Nat → Option Nat} (sf : Sol (n := n) (gl := gl) (own := own) (aims := aims) f) (sh : Sol (n := n) (gl := gl) (own := own) (aims := aims) h) (hgl : ∀ r, r < n → ∀ g ∈ gl r, g < n) (r : Nat) (hr : r < n) : f r = h r := by
  have key : ∀ v, ∀ r, r < n → (f r = some v ↔ h r = some v) := fun v => by
    induction v using Nat.strongRecOn with
    | _ v ih => exact fun r hr => ⟨sol_step sf sh hgl v ih r hr, sol_step sh sf hgl v (fun u hu r hr => (ih u hu r hr).symm) r hr⟩
  cases e : f r with
  | some v => exact ((key v r hr).mp e).symm
  | none =>
    cases e2 : h r with
    | none => rfl
    | some v =>
      rw [(key v r hr).mpr e2] at e
      cases e
end
end L_k09

set_option maxHeartbeats 4000000
/-! k09, plain law 6: the dict of the aims, the rows behind each row. -/
namespace L_k09
open PySem PyProof.Rows L2 S3
def kvsI (l : List (Int × Int)) : List (Key × D) := l.map fun p => (.inl p.1, .int p.2)
theorem kvs_any (l : List (Int × Int)) (k : Int) : ((kvsI l).any fun kv => decide (kv.1 = (.inl k : Key))) = decide (k ∈ l.map (·.1)) := by
  induction l with
  | nil => rfl
  | cons p l ih =>
    show (decide ((.inl p.1 : Key) = .inl k) || (kvsI l).any fun kv => decide (kv.1 = (.inl k : Key))) = _
    rw [ih]
    by_cases e : p.1 = k
    · subst e
      simp
    · have e' : ¬ k = p.1 := fun z => e z.symm
      simp [e, e']
theorem put_new {l : List (Int × Int)} {k v : Int} (h : k ∉ l.map (·.1)) : putG (kvsI l) (.inl k : Key) (.int v) = kvsI (l ++ [(k, v)]) := by
  unfold putG
  rw [kvs_any, if_neg (by simpa using h)]
  simp [kvsI]
theorem val_mem {l : List (Int × Int)} (nd : (l.map (·.1)).Nodup) {k v : Int} (h : (k, v) ∈ l) : valG (kvsI l) (.inl k : Key) = some (.int v) := by
  induction l with
  | nil => cases h
  | cons p l ih =>
    rw [List.map_cons, List.nodup_cons] at nd
    unfold valG kvsI
    rw [List.map_cons, List.find?_cons]
    by_cases e : p.1 = k
    · subst e
      rcases List.mem_cons.mp h with z | z
      · rw [← z]
        simp
      · exact absurd (List.mem_map_of_mem (f := (·.1)) z) nd.1
    · have hd : decide ((.inl p.1 : Key) = .inl k) = false := by simp [e]
      simp only [hd]
      rcases List.mem_cons.mp h with z | z
      · exact absurd (by rw [← z]) e
      · exact ih nd.2 z
theorem val_none {l : List (Int × Int)} {k : Int} (h : k ∉ l.map (·.1)) : valG (kvsI l) (.inl k : Key) = none := by
  unfold valG
  rw [Option.map_eq_none_iff, List.find?_eq_none]
  intro kv hkv z
  have : ((kvsI l).any fun kv => decide (kv.1 = (.inl k : Key))) = true := List.any_eq_true.mpr ⟨kv, hkv, z⟩
  rw [kvs_any] at this
  exact h (by simpa using this)
/-- {x: 0 for x in ..}, ints -/
theorem loopD_ok {src : Src} {i : Nat} {env0 : Env3} {D0 : Nat} {as : List Int} {st0 : Sto} (hi : i < env0.length) (nd : as.Nodup) (hl : as.length < 1000000) (hD : st0.length ≤ D0) (hs : ∀ s j, Pre st0 s → src s j = some (as.map D.int)[j]?) : ∀ (n j : Nat) (s : Sto), j ≤ as.length → as.length - j < n → Pre st0 s → s[D0]? = some (.dK (kvsI ((as.take j).map fun a => (a, 0)))) →
    ∃ s', loopD src (gVar i) (ret3 true) (fVar i) (ret3 (.int 0)) env0 D0 n j s = some s' ∧ Pre st0 s' ∧ s'[D0]? = some (.dK (kvsI (as.map fun a => (a, 0))))
  | 0, j, s, _, h, _, _ => by omega
  | n + 1, j, s, hj, hn, ps, hd => by
    by_cases e : j = as.length
    · subst e
      rw [List.take_length] at hd
      exact ⟨s, by unfold loopD; rw [hs s _ ps]; simp, ps, hd⟩
    · have hlt : j < as.length := by omega
      have hD1 : D0 < s.length := (List.getElem?_eq_some_iff.mp hd).1
      have nin : as[j] ∉ (((as.take j).map fun a => (a, (0 : Int))).map (·.1)) := by
        rw [List.map_map]
        intro z
        have z' : as[j] ∈ as.take j := by
          obtain ⟨a, h1, h2⟩ := List.mem_map.mp z
          have h2 : a = as[j] := h2
          rw [← h2]
          exact h1
        obtain ⟨k, hk, ek⟩ := List.mem_take_iff_getElem.mp z'
        have : k = j := (List.getElem_inj nd).mp ek
        omega
      have hp : putG (kvsI ((as.take j).map fun a => (a, (0 : Int)))) (.inl as[j] : Key) (.int 0) = kvsI ((as.take (j + 1)).map fun a => (a, (0 : Int))) := by
        rw [put_new nin, List.take_add_one, List.getElem?_eq_getElem hlt, List.map_append]
        rfl
      obtain ⟨s', e1, e2, e3⟩ := loopD_ok hi nd hl hD hs n (j + 1) (s.set D0 (.dK (kvsI ((as.take (j + 1)).map fun a => (a, (0 : Int)))))) (by omega) (by omega) (ps.setNew hD) (List.getElem?_set_self hD1)
      refine ⟨s', ?_, e2, e3⟩
      unfold loopD
      rw [hs s j ps, ints_get hlt]
      dsimp only [gVar, ret3]
      have ev : fVar i (env0.set i (some (.int as[j]))) s = some (.ok (.int as[j]), s) := by
        unfold fVar
        rw [List.getElem?_set_self hi]
      rw [ev]
      dsimp only [keyK]
      rw [hd]
      dsimp only
      rw [if_pos (by
        show (kvsI _).length < sizeLine
        unfold kvsI
        simp
        exact small_sz' (by omega)), hp]
      exact e1
theorem Ok_dc0 {env : Env3} {st : Sto} {n i : Nat} {vs : List Nat} {fi : F3 Src} {Q : D → Sto → Prop} (hi : i < (wipeE env vs).length) (h : Ok fi env st fun src st0 => ∃ as : List Int, as.Nodup ∧ as.length < n ∧ as.length < 1000000 ∧ (∀ s j, Pre st0 s → src s j = some (as.map D.int)[j]?) ∧ ∀ s, Pre st0 s → s[st0.length]? = some (.dK (kvsI (as.map fun a => (a, 0)))) → Q (.loc st0.length) s) :
    Ok (fDc n vs fi (gVar i) (ret3 true) (fVar i) (ret3 (.int 0))) env st Q := by
  unfold fDc
  rw [Ok_bnd]
  refine h.mono fun src st0 q => ?_
  obtain ⟨as, nd, hn, hl, hs, hq⟩ := q
  obtain ⟨s', e1, e2, e3⟩ := loopD_ok (D0 := st0.length) hi nd hl (Nat.le_refl _) hs n 0 (st0 ++ [.dK []]) (Nat.zero_le _) (by omega) (Pre.app _ _) (by simp [kvsI])
  exact ⟨_, s', by dsimp only; rw [e1], hq s' e2 e3⟩
theorem Wo_ixI {st : Sto} {x d : D} {ds : List D} {i : Int} {Q : D → Sto → Prop} (h : seqA st x = some ds) (h0 : 0 ≤ i) (hd : ds[i.toNat]? = some d) : Wo oIx (x, .int i) st Q ↔ Q d st := by
  have := Wo_ix (Q := Q) h hd
  rw [show ((i.toNat : Nat) : Int) = i by omega] at this
  exact this
/-! ### the rows behind each row -/
def rowAt (R : List Row) (i : Nat) : Row := R.getD i ⟨0, 0, []⟩
def glN (R : List Row) (i : Nat) : List Nat := (rowAt R i).goals.map Int.toNat
/-- the rows with a number below i that have g among their goals -/
def bk (R : List Row) (i g : Nat) : List Nat := (List.range i).filter fun r => decide (g ∈ glN R r)
def bkD (R : List Row) (i g : Nat) : List D := (bk R i g).map fun r => D.int (r : Nat)
structure Bk9 (R : List Row) (s : Sto) (B : Nat) (bs : List Nat) : Prop where
  hB : s[B]? = some (.lst (bs.map D.loc))
  len : bs.length = R.length
  at_ : ∀ (g b : Nat), bs[g]? = some b → s[b]? = some (.lst (bkD R R.length g))
theorem glN_row {R : List Row} {i : Nat} {r : Row} (h : R[i]? = some r) : glN R i = r.goals.map Int.toNat := by
  unfold glN rowAt
  rw [List.getD_eq_getElem?_getD, h]
  rfl
theorem back_of_ok {st : Sto} {R : List Row} (hg : Good R) : Wd d_p_back_of [.tup (R.map rowD)] st fun r s => ∃ B bs, r = .loc B ∧ Bk9 R s B bs ∧ Pre st s := by
  have hR : R.length ≤ 12 := hg.most
  refine Wd_of ?_
  show Ws _ [some (.tup (R.map rowD)), none, none, none, none] _ _
  unfold f_p_back_of
  rw [Ws_seq]
  refine Ws_set (Ok_lc (Ok_overT ?_))
  simp only [Ok_var0]
  refine ⟨R.map rowD, rfl, R.length, fun i acc s => (∃ bs : List Nat, acc = bs.map D.loc ∧ bs.length = i ∧ bs.Nodup ∧ ∀ b ∈ bs, st.length < b ∧ s[b]? = some (.lst [])) ∧ Pre st s, lt_loop (by omega), ⟨⟨[], rfl, rfl, .nil, by simp⟩, Pre.app _ _⟩, ?_, ?_⟩
  · rintro i acc s hi ⟨⟨bs, rfl, hl, nd, hb⟩, ps⟩ hD
    have hi' : i < (R.map rowD).length := by simpa using hi
    refine ⟨(R.map rowD)[i], [some (.tup (R.map rowD)), some (R.map rowD)[i], none, none, none], s, by unfold srcT; rw [List.getElem?_eq_getElem hi'], rfl, ?_⟩
    simp only [Ok_ret, if_true, Ok_fArgs, Ok_fNil]
    rw [Wo_lst (small_sz (by simp))]
    have sl : st.length < s.length := (List.getElem?_eq_some_iff.mp hD).1
    refine ⟨app_get hD, by simp; exact small_sz' (by omega), ⟨bs ++ [s.length], by simp, by simp [hl], ?_, fun b hb2 => ?_⟩, (ps.trans (Pre.app _ _)).setNew (Nat.le_refl _)⟩
    · rw [List.nodup_append]
      refine ⟨nd, by simp, fun a ha b hb2 => ?_⟩
      rw [List.mem_singleton.mp hb2]
      intro z
      have := (List.getElem?_eq_some_iff.mp (hb a ha).2).1
      omega
    · rcases List.mem_append.mp hb2 with z | z
      · obtain ⟨h1, h2⟩ := hb b z
        exact ⟨h1, by rw [List.getElem?_set_ne (by omega)]; exact app_get h2⟩
      · rw [List.mem_singleton.mp z]
        exact ⟨sl, by rw [List.getElem?_set_ne (by omega)]; exact app_new⟩
  · rintro acc s ⟨⟨bs, rfl, hl, nd, hb⟩, ps⟩ hD
    refine ⟨by unfold srcT; simp, ?_⟩
    rw [thenS_nx]
    show Ws _ [some (.tup (R.map rowD)), none, some (.loc st.length), none, none] s _
    rw [Ws_seq]
    refine Ws_for (Ok_overET ?_)
    simp only [Ok_fCons, Ok_var0, Ok_fNil]
    refine ⟨_, R.map rowD, rfl, rfl, R.length, fun i env s => (∃ e1 e3 e4, env = [some (.tup (R.map rowD)), e1, some (.loc st.length), e3, e4]) ∧ s[st.length]? = some (.lst (bs.map D.loc)) ∧ (∀ (g b : Nat), bs[g]? = some b → s[b]? = some (.lst (bkD R i g))) ∧ Pre st s, lt_loop (by omega), ⟨⟨none, none, none, rfl⟩, hD, fun g b hgb => ?_, ps⟩, ?_, ?_⟩
    · exact (hb b (List.mem_of_getElem? hgb)).2
    · rintro i env s hi ⟨⟨e1, e3, e4, rfl⟩, hF, hA, ps2⟩
      have hget : R[i]? = some R[i] := List.getElem?_eq_getElem hi
      have gr := hg.row R[i] (List.getElem_mem hi)
      refine ⟨.tup [.int (i : Nat), rowD R[i]], [some (.tup (R.map rowD)), some (rowD R[i]), some (.loc st.length), some (.int (i : Nat)), e4], s, ?_, rfl, ?_⟩
      · unfold srcET
        rw [List.getElem?_map, hget]
        rfl
      refine Ws_for (Ok_overT ?_)
      have hp2 : Pv (fB oIx (fVar 1) (ret3 (.int 2))) [some (.tup (R.map rowD)), some (rowD R[i]), some (.loc st.length), some (.int (i : Nat)), e4] s (.tup (R[i].goals.map D.int)) := pv_at 2 (pv_var rfl) rfl
      refine (hp2 s (Pre.refl s)).mono fun x s1 hx => ?_
      obtain ⟨rfl, p1⟩ := hx
      refine ⟨_, rfl, R[i].goals.length, fun j env s2 => (∃ e4, env = [some (.tup (R.map rowD)), some (rowD R[i]), some (.loc st.length), some (.int (i : Nat)), e4]) ∧ s2[st.length]? = some (.lst (bs.map D.loc)) ∧ (∀ (g b : Nat), bs[g]? = some b → s2[b]? = some (.lst (bkD R i g ++ if g ∈ (R[i].goals.take j).map Int.toNat then [.int (i : Nat)] else []))) ∧ Pre st s2, lt_loop (by have := gr.g4; omega), ⟨⟨e4, rfl⟩, p1.get hF, fun g b hgb => by
        have := p1.get (hA g b hgb)
        simpa using this, ps2.trans p1⟩, ?_, ?_⟩
      · rintro j env s2 hj ⟨⟨e4, rfl⟩, hF2, hA2, ps3⟩
        refine ⟨.int R[i].goals[j], [some (.tup (R.map rowD)), some (rowD R[i]), some (.loc st.length), some (.int (i : Nat)), some (.int R[i].goals[j])], s2, by unfold srcT; rw [ints_get hj], rfl, ?_⟩
        obtain ⟨g0, g1⟩ := gr.gl _ (List.getElem_mem hj)
        have hgb : R[i].goals[j].toNat < bs.length := by rw [hl]; omega
        have eg : R[i].goals[j] = ((R[i].goals[j].toNat : Nat) : Int) := by omega
        have hb1 : bs[R[i].goals[j].toNat]? = some bs[R[i].goals[j].toNat] := List.getElem?_eq_getElem hgb
        have hc := hA2 _ _ hb1
        obtain ⟨k1, _⟩ := hb _ (List.getElem_mem hgb)
        refine Ws_drop ?_
        simp only [Ok_fMeth, Ok_fB, Ok_varS, Ok_var0, Ok_fCons, Ok_fNil]
        have hix : ∀ Q : D → Sto → Prop, Wo oIx (.loc st.length, .int R[i].goals[j]) s2 Q ↔ Q (.loc bs[R[i].goals[j].toNat]) s2 := fun Q => by
          exact Wo_ixI (seqA_loc hF2) g0 (by rw [List.getElem?_map, hb1]; rfl)
        rw [hix]
        refine ⟨by rw [seqL_loc hc]; rfl, ?_⟩
        have hlen : (bkD R i R[i].goals[j].toNat ++ if R[i].goals[j].toNat ∈ (R[i].goals.take j).map Int.toNat then [D.int (i : Nat)] else []).length < 1000000 := by
          have h1 : (bkD R i R[i].goals[j].toNat).length ≤ i := by
            unfold bkD bk
            rw [List.length_map]
            exact Nat.le_trans (List.length_filter_le _ _) (by simp)
          rw [List.length_append]
          split <;> simp <;> omega
        rw [Wo_app hc hlen]
        have nin : R[i].goals[j].toNat ∉ (R[i].goals.take j).map Int.toNat := fun z => by
          obtain ⟨a, ha, ea⟩ := List.mem_map.mp z
          obtain ⟨k, hk, ek⟩ := List.mem_take_iff_getElem.mp ha
          have ga := gr.gl a (List.mem_of_mem_take ha)
          have : R[i].goals[k] = R[i].goals[j] := by rw [ek]; omega
          have : k = j := (List.getElem_inj gr.gn).mp this
          omega
        have hblt : bs[R[i].goals[j].toNat] < s2.length := (List.getElem?_eq_some_iff.mp hc).1
        have tk : (R[i].goals.take (j + 1)).map Int.toNat = (R[i].goals.take j).map Int.toNat ++ [R[i].goals[j].toNat] := by
          rw [List.take_add_one, List.getElem?_eq_getElem hj, List.map_append]
          rfl
        refine ⟨⟨_, rfl⟩, by rw [List.getElem?_set_ne (by omega)]; exact hF2, fun g b hgb2 => ?_, ps3.setNew (by omega)⟩
        rw [tk]
        by_cases eq : g = R[i].goals[j].toNat
        · subst eq
          rw [hb1] at hgb2
          cases hgb2
          rw [List.getElem?_set_self hblt, if_neg nin, if_pos (by simp), List.append_nil]
        · have hne : bs[R[i].goals[j].toNat] ≠ b := fun z => by
            obtain ⟨hgl, eb⟩ := List.getElem?_eq_some_iff.mp hgb2
            rw [← eb] at z
            exact eq ((List.getElem_inj nd).mp z).symm
          rw [List.getElem?_set_ne hne, hA2 g b hgb2]
          have e2 : (g ∈ (R[i].goals.take j).map Int.toNat ++ [R[i].goals[j].toNat]) ↔ g ∈ (R[i].goals.take j).map Int.toNat := by simp [eq]
          simp only [e2]
      · rintro env s2 ⟨⟨e4, rfl⟩, hF2, hA2, ps3⟩
        refine ⟨by unfold srcT; simp, ⟨_, _, _, rfl⟩, hF2, fun g b hgb => ?_, ps3⟩
        rw [hA2 g b hgb, List.take_length]
        congr 2
        unfold bkD bk
        rw [List.range_succ, List.filter_append, List.map_append]
        congr 1
        by_cases m : g ∈ R[i].goals.map Int.toNat
        · rw [if_pos m]
          simp [glN_row hget, m]
        · rw [if_neg m]
          simp [glN_row hget, m]
    · rintro env s ⟨⟨e1, e3, e4, rfl⟩, hF, hA, ps2⟩
      refine ⟨by unfold srcET; simp, ?_⟩
      rw [thenS_nx]
      refine Ws_ret ?_
      simp only [Ok_varS, Ok_var0]
      exact ⟨st.length, bs, rfl, ⟨hF, hl, hA⟩, ps2⟩
end L_k09

set_option maxHeartbeats 4000000
/-! k09, plain law 7: the program's search. -/
namespace L_k09
open PySem PyProof.Rows L2 S3
def sI (S : St9) : List (Int × Int) := S.map fun p => ((p.1 : Int), (p.2 : Int))
def optD : Option Nat → D
  | none => .non
  | some v => .int (v : Nat)
theorem sI_names {S : St9} : (sI S).map (·.1) = (nms S).map fun (k : Nat) => (k : Int) := by
  unfold sI nms
  rw [List.map_map, List.map_map]
  rfl
theorem sI_nodup {S : St9} (nd : (nms S).Nodup) : ((sI S).map (·.1)).Nodup := by
  rw [sI_names, List.nodup_iff_pairwise_ne, List.pairwise_map]
  exact (List.nodup_iff_pairwise_ne.mp nd).imp fun h z => h (by omega)
theorem sI_mem {S : St9} {r : Nat} : (r : Int) ∈ (sI S).map (·.1) ↔ r ∈ nms S := by
  rw [sI_names, List.mem_map]
  constructor
  · rintro ⟨a, ha, e⟩
    have : a = r := by omega
    rw [← this]
    exact ha
  · exact fun h => ⟨r, h, rfl⟩
theorem sI_app {S : St9} {r v : Nat} : sI S ++ [((r : Int), ((v : Nat) : Int))] = sI (S ++ [(r, v)]) := by simp [sI]
theorem val_sI {S : St9} (nd : (nms S).Nodup) (r : Nat) : valG (kvsI (sI S)) (.inl (r : Int) : Key) = (look S r).map fun v => D.int (v : Nat) := by
  cases e : look S r with
  | some v =>
    have h := (look_some nd).mp e
    exact val_mem (sI_nodup nd) (List.mem_map.mpr ⟨(r, v), h, rfl⟩)
  | none => exact val_none fun z => look_none.mp e (sI_mem.mp z)
section
variable {s : Sto} {Q : D → Sto → Prop}
theorem Wo_dgetI {n : Nat} {kvs : List (Key × D)} {k : Int} {d : D} (h : s[n]? = some (.dK kvs)) (hv : valG kvs (.inl k) = some d) : Wo oDget (.loc n, .int k) s Q ↔ Q d s := Wo_iff (by
  unfold oDget
  simp [dget, h, keyK, hv])
theorem Wo_dget1I {n : Nat} {kvs : List (Key × D)} {k : Int} (h : s[n]? = some (.dK kvs)) : Wo oDget1 (.loc n, .int k) s Q ↔ Q ((valG kvs (.inl k)).getD .non) s := Wo_iff (by
  unfold oDget1
  simp [dget, h, keyK])
theorem Wo_dninI {n : Nat} {kvs : List (Key × D)} {k : Int} (h : s[n]? = some (.dK kvs)) : Wo (oDin true) (.int k, .loc n) s Q ↔ Q (.bl (!(valG kvs (.inl k)).isSome)) s := Wo_iff (by
  unfold oDin
  simp [dget, h, keyK])
theorem oSetL {n r : Nat} {ds : List D} {v : D} (h : s[n]? = some (.lst ds)) (hr : r < ds.length) : oSet s (.loc n) (.int (r : Nat)) v = some (s.set n (.lst (ds.set r v))) := by
  unfold oSet
  have e : ixN ds.length (r : Nat) = some r := by
    unfold ixN
    rw [if_pos (by omega), if_pos (by omega)]
    simp
  simp [h, e]
theorem oSetD {n : Nat} {kvs : List (Key × D)} {k : Int} {v : D} (h : s[n]? = some (.dK kvs)) (hl : kvs.length < 1000000) : oSet s (.loc n) (.int k) v = some (s.set n (.dK (putG kvs (.inl k) v))) := by
  unfold oSet
  simp only [h, keyK]
  rw [if_pos (small_sz' hl)]
end
theorem nub_nodup : ∀ {l : List Int}, l.Nodup → nubI l = l
  | [], _ => rfl
  | a :: l, h => by
    obtain ⟨h1, h2⟩ := List.nodup_cons.mp h
    unfold nubI
    rw [nub_nodup h2, if_neg h1]
theorem intsD_map (l : List Int) : intsD (l.map D.int) = l := by
  induction l with
  | nil => rfl
  | cons a l ih =>
    show a :: intsD (l.map D.int) = _
    rw [ih]
theorem all_num {l : List Int} {n : Int} (h : ∀ g ∈ l, 0 ≤ g ∧ g < n) : (l.map D.int).all (fun d => isNum d n) = true := by
  rw [List.all_map, List.all_eq_true]
  intro g hg
  obtain ⟨h0, h1⟩ := h g hg
  show (decide (0 ≤ g) && decide (g < n)) = true
  simp [h0, h1]
theorem row_good {r : Row} {n : Nat} (h : GoodRow n r) : isRow (rowD r) n = true := by
  have h1 : isNum (.int r.own) 2 = true := by
    show (decide (0 ≤ r.own) && decide (r.own < 2)) = true
    simp [h.o0, h.o1]
  have h2 : isNum (.int r.rank) 302 = true := by
    have := h.k1
    show (decide (0 ≤ r.rank) && decide (r.rank < 302)) = true
    simp [h.k0]
    omega
  have h3 := all_num h.gl
  have h4 := h.g1
  have h5 := h.g4
  show (isNum (.int r.own) 2 && (isNum (.int r.rank) 302 && (decide (1 ≤ (r.goals.map D.int).length) && (decide ((r.goals.map D.int).length ≤ 4000) && ((r.goals.map D.int).all (fun d => isNum d n) && decide ((nubI (intsD (r.goals.map D.int))).length = (r.goals.map D.int).length)))))) = true
  rw [h1, h2, h3, intsD_map, nub_nodup h.gn]
  simp
  omega
theorem game_good {R : List Row} (h : Good R) : isGame (gameD R) = true := by
  have h1 := h.one
  have h2 := h.most
  show (("game" : Str) == "game" && (decide (1 ≤ (R.map rowD).length) && (decide ((R.map rowD).length ≤ 20000) && (R.map rowD).all fun r => isRow r (R.map rowD).length))) = true
  rw [show (("game" : Str) == "game") = true by decide +kernel, List.length_map, decide_eq_true h1, decide_eq_true (show R.length ≤ 20000 by omega), Bool.true_and, Bool.true_and, Bool.true_and, List.all_map, List.all_eq_true]
  exact fun r hr => row_good (h.row r hr)
theorem td_row {st : Sto} (r : Row) : TdRow st (rowD r) := ⟨.tup _, fun ds e => by
  cases e
  refine ⟨fun d hd => ?_, fun gs hg d hd => ?_⟩
  · simp only [List.mem_cons, List.not_mem_nil, or_false] at hd
    rcases hd with rfl | rfl | rfl
    · exact .int _
    · exact .int _
    · exact .tup _
  · simp only [List.mem_cons, List.not_mem_nil, or_false] at hg
    rcases hg with h | h | h
    · cases h
    · cases h
    · cases h
      obtain ⟨i, _, rfl⟩ := List.mem_map.mp hd
      exact .int i⟩
theorem td_game {st : Sto} (R : List Row) : TdGame st (gameD R) := by
  refine ⟨.tup _, fun ds e d hd => ?_, fun ds e z hz => ?_, fun ds e rs hr r hrr => ?_⟩
  · cases e
    simp only [List.mem_cons, List.not_mem_nil, or_false] at hd
    rcases hd with rfl | rfl
    · exact .str _
    · exact .tup _
  · cases e
    simp only [List.mem_cons, List.not_mem_nil, or_false] at hz
    rcases hz with h | h
    · cases h
      decide +kernel
    · cases h
  · cases e
    simp only [List.mem_cons, List.not_mem_nil, or_false] at hr
    rcases hr with h | h
    · cases h
    · cases h
      obtain ⟨q, _, rfl⟩ := List.mem_map.mp hrr
      exact td_row q
structure Aims9 (n : Nat) (as : List Int) : Prop where
  lt : ∀ a ∈ as, 0 ≤ a ∧ a < n
  inc : as.Pairwise (· < ·)
theorem incr_of : ∀ {l : List Int}, l.Pairwise (· < ·) → incr l = true
  | [], _ => rfl
  | [a], _ => rfl
  | a :: b :: l, h => by
    obtain ⟨h1, h2⟩ := List.pairwise_cons.mp h
    have ih := incr_of h2
    unfold incr at ih ⊢
    show (decide (a < b) && ((b :: l).zip l).all fun p => decide (p.1 < p.2)) = true
    rw [decide_eq_true (h1 b (by simp)), Bool.true_and]
    exact ih
theorem aims_len {n : Nat} {as : List Int} (h : Aims9 n as) : as.length ≤ n := by
  have h1 : as.Nodup := by
    rw [List.nodup_iff_pairwise_ne]
    exact h.inc.imp fun z => by omega
  have := len_le_of h1 (m := (List.range n).map fun i => ((i : Nat) : Int)) fun x hx => rg_mem.mpr (h.lt x hx)
  rwa [rg_len] at this
theorem aims_good {n : Nat} {as : List Int} (h : Aims9 n as) : areAims (.tup (as.map D.int)) n = true := by
  show ((as.map D.int).all (fun d => isNum d n) && incr (intsD (as.map D.int))) = true
  rw [all_num h.lt, intsD_map, incr_of h.inc]
  rfl
theorem td_aims {st : Sto} {as : List Int} (h : as.length ≤ 1000) : TdAims st (.tup (as.map D.int)) := ⟨.tup _, fun ds e => by
  cases e
  refine ⟨by simpa using h, fun d hd => ?_⟩
  obtain ⟨i, _, rfl⟩ := List.mem_map.mp hd
  exact .int i⟩
end L_k09

set_option maxHeartbeats 8000000
/-! k09, plain law 8: drawn. -/
namespace L_k09
open PySem PyProof.Rows L2 S3
def ownN (R : List Row) (side : Int) (r : Nat) : Bool := decide ((rowAt R r).own = side)
/-- the store of the search -/
structure Sea (R : List Row) (as : List Int) (s0 s : Sto) (B : Nat) (bs : List Nat) (Sd L Q : Nat) (S : St9) (lf : List Int) : Prop where
  bk : Bk9 R s B bs
  sd : s[Sd]? = some (.dK (kvsI (sI S)))
  q : s[Q]? = some (.lst ((nms S).map fun (k : Nat) => D.int (k : Nat)))
  l : s[L]? = some (.lst (lf.map D.int))
  pre : Pre s0 s
/-- where the things stand -/
structure Pla (s0 : Sto) (B : Nat) (bs : List Nat) (Sd L Q : Nat) : Prop where
  b : B < Sd
  bs : ∀ b ∈ bs, b < Sd
  s : s0.length ≤ Sd
  l : Sd < L
  q : L < Q
theorem Bk9.put {R : List Row} {s : Sto} {B : Nat} {bs : List Nat} {n : Nat} {o : O} (h : Bk9 R s B bs) (h1 : n ≠ B) (h2 : ∀ b ∈ bs, n ≠ b) : Bk9 R (s.set n o) B bs :=
  ⟨by rw [List.getElem?_set_ne h1]; exact h.hB, h.len, fun g b e => by rw [List.getElem?_set_ne (h2 b (List.mem_of_getElem? e))]; exact h.at_ g b e⟩
theorem row_get {R : List Row} {r : Nat} (h : r < R.length) : (R.map rowD)[r]? = some (rowD (rowAt R r)) := by
  rw [List.getElem?_map, List.getElem?_eq_getElem h]
  unfold rowAt
  rw [List.getD_eq_getElem?_getD, List.getElem?_eq_getElem h]
  rfl
theorem gl_lt {R : List Row} (hg : Good R) {r : Nat} (hr : r < R.length) : ∀ g ∈ glN R r, g < R.length := fun g h => by
  rw [glN_row (List.getElem?_eq_getElem hr)] at h
  obtain ⟨a, ha, rfl⟩ := List.mem_map.mp h
  have := (hg.row _ (List.getElem_mem hr)).gl a ha
  omega
theorem gl_nd {R : List Row} (hg : Good R) {r : Nat} (hr : r < R.length) : (glN R r).Nodup := by
  rw [glN_row (List.getElem?_eq_getElem hr)]
  have gr := hg.row _ (List.getElem_mem hr)
  rw [List.nodup_iff_pairwise_ne, List.pairwise_map]
  refine List.Pairwise.imp_of_mem ?_ (List.nodup_iff_pairwise_ne.mp gr.gn)
  intro a b ha hb h z
  have h1 := gr.gl a ha
  have h2 := gr.gl b hb
  exact h (by omega)
theorem gl_ne {R : List Row} (hg : Good R) {r : Nat} (hr : r < R.length) : glN R r ≠ [] := by
  rw [glN_row (List.getElem?_eq_getElem hr)]
  have gr := (hg.row _ (List.getElem_mem hr)).g1
  intro z
  have := congrArg List.length z
  rw [List.length_map] at this
  simp at this
  rw [this] at gr
  simp at gr
theorem gl_len {R : List Row} {r : Nat} (hr : r < R.length) : (glN R r).length = R[r].goals.length := by
  rw [glN_row (List.getElem?_eq_getElem hr), List.length_map]
/-- the test of a row that is met -/
theorem test_ok {R : List Row} {as : List Int} {s0 s : Sto} {B Sd L Q : Nat} {bs : List Nat} {S : St9} {lf : List Int} {side : Int} {r : Nat} {x0 x2 x5 x8 : D} {x9 x10 x11 x12 x13 : Option D} {k : Int} (nd : (nms S).Nodup) (h : Sea R as s0 s B bs Sd L Q S lf) (hr : r < R.length) (hk : lf[r]? = some k) :
    Ok (fAnd (bnd (fB (oDin true) (fVar 4) (fVar 6)) asB) (fOr (bnd (fB oEq (fB oIx (fB oIx (fVar 3) (fVar 4)) (ret3 (.int 0))) (fVar 1)) asB) (bnd (fB oEq (fB oIx (fVar 7) (fVar 4)) (ret3 (.int 0))) asB)))
      [some x0, some (.int side), some x2, some (.tup (R.map rowD)), some (.int (r : Nat)), some x5, some (.loc Sd), some (.loc L), some x8, x9, x10, x11, x12, x13] s fun b s2 => b = (!decide (r ∈ nms S) && (ownN R side r || decide (k = 0))) ∧ s2 = s := by
  simp only [Ok_fAnd, Ok_fOr, Ok_bnd, Ok_fB, Ok_varS, Ok_var0, Ok_ret, Ok_asB]
  rw [Wo_dninI h.sd, val_sI nd]
  simp only [D.bl.injEq, exists_eq_left']
  by_cases hin : r ∈ nms S
  · have : look S r ≠ none := fun z => look_none.mp z hin
    cases e : look S r with
    | none => exact absurd e this
    | some v =>
      rw [if_neg (by simp)]
      exact ⟨by simp [hin], trivial⟩
  · rw [look_none.mpr hin, if_pos (by simp)]
    rw [Wo_ix seqA_tup (row_get hr), show (0 : Int) = ((0 : Nat) : Int) by rfl, Wo_ix (n := 0) (d := .int (rowAt R r).own) (by unfold rowD; exact seqA_tup) rfl, Wo_eqI]
    simp only [D.bl.injEq, exists_eq_left']
    by_cases ho : (rowAt R r).own = side
    · rw [if_pos (by simpa using ho)]
      exact ⟨by simp [hin, ownN, ho], trivial⟩
    · rw [if_neg (by simpa using ho), Wo_ix (seqA_loc h.l) (d := .int k) (by rw [List.getElem?_map, hk]; rfl), Wo_eqI]
      simp only [D.bl.injEq, exists_eq_left']
      exact ⟨by simp [hin, ownN, ho], trivial⟩
theorem bk_mem {R : List Row} {g r : Nat} : r ∈ bk R R.length g ↔ r < R.length ∧ g ∈ glN R r := by
  unfold bk
  rw [List.mem_filter, List.mem_range]
  simp
theorem bk_nd {R : List Row} {g : Nat} : (bk R R.length g).Nodup := List.nodup_range.filter _
theorem bk_len {R : List Row} {g : Nat} : (bk R R.length g).length ≤ R.length := by
  unfold bk
  exact Nat.le_trans (List.length_filter_le _ _) (by simp)
theorem cnt_snoc {gl : Nat → List Nat} {S : St9} {i : Nat} {js : List Nat} {r q : Nat} (hr : r ∉ js) : cnt gl S i (js ++ [r]) q = cnt gl S i js q + if q = r then 1 else 0 := by
  unfold cnt
  by_cases e : q = r
  · subst e
    simp [hr]
  · have : (q ∈ js ++ [r]) ↔ q ∈ js := by simp [e]
    simp only [this, if_neg e, Nat.add_zero]
/-- a row behind the goal is met -/
theorem met_ok {R : List Row} {as : List Int} {s0 s : Sto} {B Sd L Q : Nat} {bs : List Nat} {S : St9} {lf : List Int} {side : Int} {x0 x2 : D} {x9 x11 x12 x13 : Option D} {i g0 v0 r : Nat} {js : List Nat} {aims : List Nat} (hR : R.length ≤ 12)
    (pl : Pla s0 B bs Sd L Q) (h : Sea R as s0 s B bs Sd L Q S lf) (at_ : At9 R.length (glN R) (ownN R side) aims S i js g0 v0) (hr : r < R.length) (hg : g0 ∈ glN R r) (hj : r ∉ js)
    (hlf : lf.length = R.length) (hl : ∀ q, q < R.length → lf[q]? = some (((glN R q).length : Int) - (cnt (glN R) S i js q : Nat))) :
    Ws (fSeq (fAugS (fun i j => i - j) (fVar 7) (fVar 4) (ret3 (.int 1)))
    (fIfS (fAnd (bnd (fB (oDin true) (fVar 4) (fVar 6)) asB) (fOr (bnd (fB oEq (fB oIx (fB oIx (fVar 3) (fVar 4)) (ret3 (.int 0))) (fVar 1)) asB) (bnd (fB oEq (fB oIx (fVar 7) (fVar 4)) (ret3 (.int 0))) asB)))
    (fSeq (fAsg (fB oAdd (fB oDget (fVar 6) (fVar 10)) (ret3 (.int 1))) (gSub3 (fVar 6) (fVar 4)))
    (fDrop (fMeth oApp (fVar 8) (fCons (fVar 4) fNil))))
    fNop)) [some x0, some (.int side), some x2, some (.tup (R.map rowD)), some (.int (r : Nat)), some (.loc B), some (.loc Sd), some (.loc L), some (.loc Q), x9, some (.int (g0 : Nat)), x11, x12, x13] s
      fun rr env s2 => rr = .nx ∧ env = [some x0, some (.int side), some x2, some (.tup (R.map rowD)), some (.int (r : Nat)), some (.loc B), some (.loc Sd), some (.loc L), some (.loc Q), x9, some (.int (g0 : Nat)), x11, x12, x13] ∧ ∃ S2 lf2, Sea R as s0 s2 B bs Sd L Q S2 lf2 ∧ At9 R.length (glN R) (ownN R side) aims S2 i (js ++ [r]) g0 v0 ∧ lf2.length = R.length ∧ ∀ q, q < R.length → lf2[q]? = some (((glN R q).length : Int) - (cnt (glN R) S2 i (js ++ [r]) q : Nat)) := by
  have hLlt : L < s.length := (List.getElem?_eq_some_iff.mp h.l).1
  have hk := hl r hr
  have hrl : r < lf.length := by omega
  rw [Ws_seq]
  refine Ws_augS ?_
  simp only [Ok_varS, Ok_var0, Ok_ret]
  obtain ⟨k, ek⟩ : ∃ k : Int, k = ((glN R r).length : Int) - (cnt (glN R) S i js r : Nat) := ⟨_, rfl⟩
  rw [← ek] at hk
  refine ⟨(r : Nat), lf.map D.int, k, rfl, by omega, by omega, seqL_loc h.l, by rw [List.getElem?_map, Int.toNat_natCast, hk]; rfl, 1, s.set L (.lst ((lf.set r (k - 1)).map D.int)), rfl, ?_, ?_⟩
  · rw [oSetL h.l (by simpa using hrl), List.map_set]
  rw [thenS_nx]
  have h2 : Sea R as s0 (s.set L (.lst ((lf.set r (k - 1)).map D.int))) B bs Sd L Q S (lf.set r (k - 1)) := by
    refine ⟨h.bk.put (by have := pl.b; have := pl.l; omega) (fun b hb => by have := pl.bs b hb; have := pl.l; omega), ?_, ?_, List.getElem?_set_self hLlt, h.pre.setNew (by have := pl.s; have := pl.l; omega)⟩
    · rw [List.getElem?_set_ne (by have := pl.l; omega)]
      exact h.sd
    · rw [List.getElem?_set_ne (by have := pl.q; omega)]
      exact h.q
  have hl2 : ∀ q, q < R.length → (lf.set r (k - 1))[q]? = some (((glN R q).length : Int) - (cnt (glN R) S i (js ++ [r]) q : Nat)) := fun q hq => by
    rw [cnt_snoc hj]
    by_cases e : q = r
    · subst e
      rw [List.getElem?_set_self hrl, if_pos rfl, ek]
      congr 1
      omega
    · rw [List.getElem?_set_ne (Ne.symm e), if_neg e, hl q hq]
      rfl
  have hlen2 : (lf.set r (k - 1)).length = R.length := by simpa using hlf
  generalize s.set L (.lst ((lf.set r (k - 1)).map D.int)) = s1 at h2 ⊢
  generalize lf.set r (k - 1) = lf1 at h2 hl2 hlen2
  refine Ws_if ((test_ok at_.core.nd h2 hr (hl2 r hr)).mono fun b s2 hb => ?_)
  obtain ⟨rfl, rfl⟩ := hb
  by_cases hc : (!decide (r ∈ nms S) && (ownN R side r || decide (((glN R r).length : Int) - (cnt (glN R) S i (js ++ [r]) r : Nat) = 0))) = true
  · rw [if_pos hc]
    simp only [Bool.and_eq_true, Bool.not_eq_true', decide_eq_false_iff_not, Bool.or_eq_true, decide_eq_true_eq] at hc
    obtain ⟨hS, hy⟩ := hc
    have hgS : (g0, v0) ∈ S := List.mem_of_getElem? at_.hi
    have hSl : S.length ≤ R.length := by
      have h3 := len_le_of at_.core.nd (m := List.range R.length) fun x hx => by
        obtain ⟨u, hu⟩ := nms_ex hx
        exact List.mem_range.mpr (at_.core.lt _ hu)
      rwa [nms_len, List.length_range] at h3
    have t2 := at_.take hr hg hj hS (by
      rcases hy with y | y
      · exact .inl y
      · exact .inr (by omega))
    rw [Ws_seq]
    refine Ws_sub ?_
    simp only [Ok_fB, Ok_varS, Ok_var0, Ok_ret]
    rw [Wo_dgetI (d := .int (v0 : Nat)) h2.sd (by rw [val_sI at_.core.nd, (look_some at_.core.nd).mpr hgS]; rfl), Wo_add]
    have nin : (r : Int) ∉ (sI S).map (·.1) := fun z => hS (sI_mem.mp z)
    refine ⟨s2.set Sd (.dK (kvsI (sI (S ++ [(r, v0 + 1)])))), ?_, ?_⟩
    · rw [oSetD h2.sd (by unfold kvsI sI; simp; omega), put_new nin]
      have : sI S ++ [((r : Int), (v0 : Int) + 1)] = sI (S ++ [(r, v0 + 1)]) := by simp [sI]
      rw [this]
    rw [thenS_nx]
    have hQ : (s2.set Sd (.dK (kvsI (sI (S ++ [(r, v0 + 1)])))))[Q]? = some (.lst ((nms S).map fun (k : Nat) => D.int (k : Nat))) := by
      rw [List.getElem?_set_ne (by have := pl.l; have := pl.q; omega)]
      exact h2.q
    have hSdl : Sd < s2.length := (List.getElem?_eq_some_iff.mp h2.sd).1
    have hQl : Q < s2.length := (List.getElem?_eq_some_iff.mp h2.q).1
    refine Ws_drop ?_
    simp only [Ok_fMeth, Ok_varS, Ok_var0, Ok_fCons, Ok_fNil]
    refine ⟨by rw [seqL_loc hQ]; rfl, ?_⟩
    rw [Wo_app hQ (by simp [nms_len]; omega)]
    refine ⟨trivial, trivial, S ++ [(r, v0 + 1)], lf1, ⟨?_, ?_, ?_, ?_, ?_⟩, t2, hlen2, fun q hq => ?_⟩
    · exact (h2.bk.put (by have := pl.b; omega) fun b hb => by have := pl.bs b hb; omega).put (by have := pl.b; have := pl.l; have := pl.q; omega) fun b hb => by have := pl.bs b hb; have := pl.l; have := pl.q; omega
    · rw [List.getElem?_set_ne (by have := pl.l; have := pl.q; omega), List.getElem?_set_self hSdl]
    · rw [List.getElem?_set_self (by simpa using hQl), nms_app, List.map_append]
      rfl
    · rw [List.getElem?_set_ne (by have := pl.q; omega), List.getElem?_set_ne (by have := pl.l; omega)]
      exact h2.l
    · exact (h2.pre.setNew pl.s).setNew (by have := pl.s; have := pl.l; have := pl.q; omega)
    · have il : i ≤ S.length := Nat.le_of_lt (List.getElem?_eq_some_iff.mp at_.hi).1
      rw [hl2 q hq]
      have : cnt (glN R) (S ++ [(r, v0 + 1)]) i (js ++ [r]) q = cnt (glN R) S i (js ++ [r]) q := by
        unfold cnt
        rw [take_app il]
      rw [this]
  · rw [if_neg hc, Ws_nop]
    refine ⟨rfl, rfl, S, lf1, h2, at_.skip hj ?_, hlen2, hl2⟩
    by_cases hS : r ∈ nms S
    · exact .inl hS
    · refine .inr ?_
      simp only [hS, decide_false, Bool.not_false, Bool.true_and, Bool.or_eq_true, decide_eq_true_eq, not_or] at hc
      have ho : ownN R side r = false := by simpa using hc.1
      have h3 := at_.clo' r hr hS ho
      have h4 := cnt_snoc (gl := glN R) (S := S) (i := i) (q := r) hj
      rw [if_pos rfl] at h4
      exact ⟨ho, by omega⟩
end L_k09

set_option maxHeartbeats 8000000
/-! k09, plain law 9: drawn, whole. -/
namespace L_k09
open PySem PyProof.Rows L2 S3
abbrev E9 (R : List Row) (side : Int) (as : List Int) (e4 : Option D) (B Sd L Q : Nat) (i : Int) (e10 e11 e12 e13 : Option D) : Env3 :=
  [some (gameD R), some (.int side), some (.tup (as.map D.int)), some (.tup (R.map rowD)), e4, some (.loc B), some (.loc Sd), some (.loc L), some (.loc Q), some (.int i), e10, e11, e12, e13]
theorem search_ok {R : List Row} {as : List Int} {side : Int} {s0 s : Sto} {B Sd L Q : Nat} {bs : List Nat} {S : St9} {lf : List Int} {e4 e10 e11 e12 e13 : Option D} (hg : Good R) (pl : Pla s0 B bs Sd L Q) (h : Sea R as s0 s B bs Sd L Q S lf) (hd : Head9 R.length (glN R) (ownN R side) (as.map Int.toNat) S 0)
    (hlf : lf.length = R.length) (hl : ∀ q, q < R.length → lf[q]? = some (((glN R q).length : Int) - (cnt (glN R) S 0 [] q : Nat))) :
    Ws (fWhile (bnd (fB oLt (fVar 9) (fArgs oLen (fCons (fVar 8) fNil))) asB)
    (fSeq (fAsg (fB oIx (fVar 8) (fVar 9)) (gVar 10))
    (fSeq (fAug (fun i j => i + j) 9 (ret3 (.int 1)))
    (fFor loopN (fOverL (fB oIx (fVar 5) (fVar 10))) (gVar 4)
    (fSeq (fAugS (fun i j => i - j) (fVar 7) (fVar 4) (ret3 (.int 1)))
    (fIfS (fAnd (bnd (fB (oDin true) (fVar 4) (fVar 6)) asB) (fOr (bnd (fB oEq (fB oIx (fB oIx (fVar 3) (fVar 4)) (ret3 (.int 0))) (fVar 1)) asB) (bnd (fB oEq (fB oIx (fVar 7) (fVar 4)) (ret3 (.int 0))) asB)))
    (fSeq (fAsg (fB oAdd (fB oDget (fVar 6) (fVar 10)) (ret3 (.int 1))) (gSub3 (fVar 6) (fVar 4)))
    (fDrop (fMeth oApp (fVar 8) (fCons (fVar 4) fNil))))
    fNop))))) loopN) (E9 R side as e4 B Sd L Q 0 e10 e11 e12 e13) s
    fun rr env s2 => rr = .nx ∧ ∃ S2 e4 i e10 lf2, env = E9 R side as e4 B Sd L Q i e10 e11 e12 e13 ∧ Sea R as s0 s2 B bs Sd L Q S2 lf2 ∧ Head9 R.length (glN R) (ownN R side) (as.map Int.toNat) S2 S2.length := by
  have hR := hg.most
  refine Ws_while (fun k env s => ∃ S e4 i e10 lf, env = E9 R side as e4 B Sd L Q ((i : Nat) : Int) e10 e11 e12 e13 ∧ k = R.length - i ∧ Sea R as s0 s B bs Sd L Q S lf ∧ Head9 R.length (glN R) (ownN R side) (as.map Int.toNat) S i ∧ lf.length = R.length ∧ ∀ q, q < R.length → lf[q]? = some (((glN R q).length : Int) - (cnt (glN R) S i [] q : Nat))) ?_ loopN R.length _ _ (lt_loop (by omega)) ⟨S, e4, 0, e10, lf, rfl, rfl, h, hd, hlf, hl⟩
  rintro k env s ⟨S, e4, i, e10, lf, rfl, rfl, h, hd, hlf, hl⟩
  have hSl : S.length ≤ R.length := by
    have h3 := len_le_of hd.core.nd (m := List.range R.length) fun x hx => by
      obtain ⟨u, hu⟩ := nms_ex hx
      exact List.mem_range.mpr (hd.core.lt _ hu)
    rwa [nms_len, List.length_range] at h3
  simp only [E9, Ok_bnd, Ok_fB, Ok_varS, Ok_var0, Ok_fArgs, Ok_fCons, Ok_fNil]
  rw [Wo_len (seqA_loc h.q), Wo_lt]
  simp only [Ok_asB, D.bl.injEq, exists_eq_left']
  rw [List.length_map, nms_len]
  by_cases hi : i < S.length
  · rw [if_pos (by simp; omega)]
    obtain ⟨⟨g0, v0⟩, hS⟩ : ∃ p, S[i]? = some p := ⟨_, List.getElem?_eq_getElem hi⟩
    have hgS : (g0, v0) ∈ S := List.mem_of_getElem? hS
    have hg0 : g0 < R.length := hd.core.lt _ hgS
    have hnm : (nms S)[i]? = some g0 := by
      unfold nms
      rw [List.getElem?_map, hS]
      rfl
    rw [Ws_seq]
    refine Ws_set ?_
    simp only [Ok_fB, Ok_varS, Ok_var0]
    rw [Wo_ix (seqA_loc h.q) (d := .int (g0 : Nat)) (by rw [List.getElem?_map, hnm]; rfl), thenS_nx]
    show Ws _ (E9 R side as e4 B Sd L Q ((i : Nat) : Int) (some (.int (g0 : Nat))) e11 e12 e13) s _
    rw [Ws_seq]
    refine Ws_aug (k := (i : Nat)) rfl ?_
    rw [Ok_ret]
    refine ⟨1, rfl, ?_⟩
    rw [thenS_nx]
    show Ws _ (E9 R side as e4 B Sd L Q ((i : Nat) + 1 : Int) (some (.int (g0 : Nat))) e11 e12 e13) s _
    have hbl : g0 < bs.length := by rw [h.bk.len]; exact hg0
    have hb1 : bs[g0]? = some bs[g0] := List.getElem?_eq_getElem hbl
    refine Ws_for (Ok_overL ?_)
    simp only [E9, Ok_fB, Ok_varS, Ok_var0]
    rw [Wo_ix (seqA_loc h.bk.hB) (d := .loc bs[g0]) (by rw [List.getElem?_map, hb1]; rfl)]
    refine ⟨_, seqL_loc (h.bk.at_ g0 _ hb1), (bk R R.length g0).length, fun j env s => ∃ S e4 lf, env = E9 R side as e4 B Sd L Q ((i : Nat) + 1 : Int) (some (.int (g0 : Nat))) e11 e12 e13 ∧ Sea R as s0 s B bs Sd L Q S lf ∧ At9 R.length (glN R) (ownN R side) (as.map Int.toNat) S i ((bk R R.length g0).take j) g0 v0 ∧ lf.length = R.length ∧ ∀ q, q < R.length → lf[q]? = some (((glN R q).length : Int) - (cnt (glN R) S i ((bk R R.length g0).take j) q : Nat)), lt_loop (by have := bk_len (R := R) (g := g0); omega), ⟨S, e4, lf, rfl, h, At9.of hd hS, hlf, hl⟩, ?_, ?_⟩
    · rintro j env s2 hj ⟨S2, e4, lf2, rfl, h2, at2, hlf2, hl2⟩
      obtain ⟨hr, hgr⟩ := bk_mem.mp (List.getElem_mem hj)
      have tk : (bk R R.length g0).take (j + 1) = (bk R R.length g0).take j ++ [(bk R R.length g0)[j]] := by
        rw [List.take_add_one, List.getElem?_eq_getElem hj]
        rfl
      have nin : (bk R R.length g0)[j] ∉ (bk R R.length g0).take j := fun z => by
        obtain ⟨m, hm, em⟩ := List.mem_take_iff_getElem.mp z
        have : m = j := (List.getElem_inj bk_nd).mp em
        omega
      refine ⟨.int ((bk R R.length g0)[j] : Nat), E9 R side as (some (.int ((bk R R.length g0)[j] : Nat))) B Sd L Q ((i : Nat) + 1 : Int) (some (.int (g0 : Nat))) e11 e12 e13, s2, ?_, rfl, ?_⟩
      · rw [srcL_loc (h2.bk.at_ g0 _ hb1)]
        unfold bkD
        rw [List.getElem?_map, List.getElem?_eq_getElem hj]
        rfl
      refine (met_ok hR pl h2 at2 hr hgr nin hlf2 hl2).mono fun rr env s3 hh => ?_
      obtain ⟨rfl, rfl, S3', lf3, h3, at3, hlf3, hl3⟩ := hh
      rw [← tk] at at3 hl3
      exact ⟨S3', _, lf3, rfl, h3, at3, hlf3, hl3⟩
    · rintro env s2 ⟨S2, e4, lf2, rfl, h2, at2, hlf2, hl2⟩
      refine ⟨?_, ?_⟩
      · rw [srcL_loc (h2.bk.at_ g0 _ hb1)]
        unfold bkD
        simp
      rw [List.take_length] at at2 hl2
      obtain ⟨hd2, hc2⟩ := at2.next (fun r hr => ⟨fun z => bk_mem.mpr ⟨hr, z⟩, fun z => (bk_mem.mp z).2⟩) fun r hr => gl_nd hg hr
      refine ⟨R.length - (i + 1), by omega, S2, e4, i + 1, _, lf2, rfl, rfl, h2, hd2, hlf2, fun q hq => ?_⟩
      rw [hc2 q hq]
      exact hl2 q hq
  · rw [if_neg (by simp; omega)]
    have : i = S.length := by have := hd.le; omega
    subst this
    exact ⟨trivial, S, e4, _, e10, lf, rfl, h, hd⟩
theorem drawn_ok {st : Sto} {R : List Row} {side : Int} {as : List Int} (hg : Good R) (h0 : 0 ≤ side) (h1 : side < 2) (ha : Aims9 R.length as) :
    Wd d_p_drawn [gameD R, .int side, .tup (as.map D.int)] st fun r s => (∃ f : Nat → Option Nat, Sol (n := R.length) (gl := glN R) (own := ownN R side) (aims := as.map Int.toNat) f ∧ (∀ r v, f r = some v → v < R.length) ∧ r = .tup ((List.range R.length).map fun r => optD (f r))) ∧ Pre st s := by
  have hR := hg.most
  have hal := aims_len ha
  have hsd : isNum (.int side) 2 = true := by
    show (decide (0 ≤ side) && decide (side < 2)) = true
    simp [h0, h1]
  refine Wd_of ?_
  show Ws _ [some (gameD R), some (.int side), some (.tup (as.map D.int)), none, none, none, none, none, none, none, none, none, none, none] _ _
  unfold f_p_drawn
  rw [Ws_seq]
  refine Ws_drop_ok (ds := [gameD R]) (d := .non) (pv_cons (pv_var rfl) pv_nil) rfl (fun s p => need_game_ok (td_game R) (game_good hg)) fun s1 p1 => ?_
  rw [thenS_nx, Ws_seq]
  refine Ws_drop_ok (ds := [.int side]) (d := .non) (pv_cons (pv_var rfl) pv_nil) rfl (fun s p => need_side_ok (.int side) hsd) fun s2 p2 => ?_
  rw [thenS_nx, Ws_seq]
  refine ws_set (d := .tup (R.map rowD)) (pv_at 1 (pv_var (d := gameD R) rfl) rfl) fun s3 p3 => ?_
  rw [thenS_nx]
  show Ws _ [some (gameD R), some (.int side), some (.tup (as.map D.int)), some (.tup (R.map rowD)), none, none, none, none, none, none, none, none, none, none] s3 _
  refine ws_seq_if (B := false) (by
    have key := pv_not (pv_asB (pv_call (d := .bl (areAims (.tup (as.map D.int)) (R.map rowD).length)) (ds := [.tup (as.map D.int), .int (R.map rowD).length]) (env := [some (gameD R), some (.int side), some (.tup (as.map D.int)), some (.tup (R.map rowD)), none, none, none, none, none, none, none, none, none, none]) (st := s3) (n := 2) (pv_cons (fa := fVar 2) (pv_var rfl) (pv_cons (pv_len (fa := fVar 3) (pv_var rfl)) pv_nil)) rfl fun s p => are_aims_ok (td_aims (by omega))))
    rw [List.length_map, aims_good ha] at key
    exact key) fun s4 p4 => ?_
  rw [if_neg (by simp), Ws_nop, thenS_nx, Ws_seq]
  have p04 := ((p1.trans p2).trans p3).trans p4
  refine Ws_asg ?_
  simp only [Ok_fArgs, Ok_fCons, Ok_fCall, Ok_varS, Ok_var0, Ok_fNil]
  refine ⟨rfl, (back_of_ok hg).mono fun r s5 hr => ?_⟩
  obtain ⟨B, bs, rfl, hB, p5⟩ := hr
  refine Ok_dc0 (show (4 : Nat) < 14 by decide) (Ok_overT ?_)
  simp only [Ok_varS, Ok_var0]
  have and_ : as.Nodup := by
    rw [List.nodup_iff_pairwise_ne]
    exact ha.inc.imp fun z => by omega
  refine ⟨as.map D.int, rfl, as, and_, lt_loop (by omega), by omega, fun s j _ => rfl, fun s6 p6 h6 => ?_⟩
  rw [Wo_tup (small_sz (by simp))]
  refine ⟨_, _, rfl, ?_⟩
  rw [thenS_nx]
  show Ws _ [some (gameD R), some (.int side), some (.tup (as.map D.int)), some (.tup (R.map rowD)), none, some (.loc B), some (.loc s5.length), none, none, none, none, none, none, none] s6 _
  rw [Ws_seq]
  refine Ws_set (Ok_lcP (Ok_overT ?_))
  simp only [Ok_varS, Ok_var0]
  refine ⟨R.map rowD, rfl, R.map rowD, fun _ => true, fun d => match d with
    | .tup [_, _, .tup gs] => .int gs.length
    | d => d, lt_loop (by simp; omega), by simp; omega, fun s i _ => rfl, fun d s hdm ps => ?_, fun s7 p7 h7 => ?_⟩
  · obtain ⟨q, _, rfl⟩ := List.mem_map.mp hdm
    refine ⟨[some (gameD R), some (.int side), some (.tup (as.map D.int)), some (.tup (R.map rowD)), none, some (.loc B), some (.loc s5.length), none, none, none, none, some (.int q.own), some (.int q.rank), some (.tup (q.goals.map D.int))], rfl, ?_⟩
    simp only [Ok_ret, Ok_fArgs, Ok_fCons, Ok_varS, Ok_var0, Ok_fNil]
    rw [Wo_len seqA_tup]
    exact ⟨trivial, Pre.refl _, fun _ => ⟨rfl, Pre.refl _⟩⟩
  rw [S3.filter_all, List.map_map] at h7
  rw [thenS_nx]
  show Ws _ [some (gameD R), some (.int side), some (.tup (as.map D.int)), some (.tup (R.map rowD)), none, some (.loc B), some (.loc s5.length), some (.loc s6.length), none, none, none, none, none, none] s7 _
  rw [Ws_seq]
  refine Ws_par ?_
  simp only [Ok_fArgs, Ok_fCons, Ok_varS, Ok_var0, Ok_fNil, Ok_ret]
  rw [Wo_listA seqA_tup]
  refine ⟨rfl, ?_⟩
  rw [thenS_nx]
  show Ws _ (E9 R side as none B s5.length s6.length s7.length 0 none none none none) (s7 ++ [O.lst (as.map D.int)]) _
  have hBl : B < s5.length := (List.getElem?_eq_some_iff.mp hB.hB).1
  have hbs : ∀ b ∈ bs, b < s5.length := fun b hb => by
    obtain ⟨g, hgl, eg⟩ := List.mem_iff_getElem.mp hb
    exact (List.getElem?_eq_some_iff.mp (hB.at_ g b (by rw [List.getElem?_eq_getElem hgl, eg]))).1
  have l6 : s5.length < s6.length := (List.getElem?_eq_some_iff.mp h6).1
  have l7 : s6.length < s7.length := (List.getElem?_eq_some_iff.mp h7).1
  have pl : Pla s5 B bs s5.length s6.length s7.length := ⟨hBl, hbs, Nat.le_refl _, l6, l7⟩
  have p58 : Pre s5 (s7 ++ [O.lst (as.map D.int)]) := (p6.trans p7).trans (Pre.app _ _)
  have eS : sI ((as.map Int.toNat).map fun a => (a, 0)) = as.map fun a => (a, (0 : Int)) := by
    unfold sI
    rw [List.map_map, List.map_map]
    refine List.map_congr_left fun a haa => ?_
    have := (ha.lt a haa).1
    show (((a.toNat : Nat) : Int), ((0 : Nat) : Int)) = (a, 0)
    rw [show ((a.toNat : Nat) : Int) = a by omega]
    rfl
  have eN : nms ((as.map Int.toNat).map fun a => (a, 0)) = as.map Int.toNat := by
    unfold nms
    rw [List.map_map]
    exact List.map_id _
  have sea : Sea R as s5 (s7 ++ [O.lst (as.map D.int)]) B bs s5.length s6.length s7.length ((as.map Int.toNat).map fun a => (a, 0)) (R.map fun q => (q.goals.length : Int)) := by
    refine ⟨⟨p58.get hB.hB, hB.len, fun g b e => p58.get (hB.at_ g b e)⟩, ?_, ?_, ?_, p58⟩
    · rw [eS]
      exact (p7.trans (Pre.app _ _)).get h6
    · rw [eN, app_new, List.map_map]
      congr 2
      refine List.map_congr_left fun a haa => ?_
      have := (ha.lt a haa).1
      show D.int a = D.int ((a.toNat : Nat) : Int)
      rw [show ((a.toNat : Nat) : Int) = a by omega]
    · rw [app_get h7, List.map_map]
      congr 2
      refine List.map_congr_left fun q _ => ?_
      show D.int ((q.goals.map D.int).length : Nat) = D.int (q.goals.length : Nat)
      rw [List.length_map]
  have start : Head9 R.length (glN R) (ownN R side) (as.map Int.toNat) ((as.map Int.toNat).map fun a => (a, 0)) 0 := by
    refine head_start ?_ (fun a haa => ?_) fun r hr => gl_ne hg hr
    · rw [List.nodup_iff_pairwise_ne, List.pairwise_map]
      refine List.Pairwise.imp_of_mem ?_ ha.inc
      intro a b haa hbb hlt z
      have := ha.lt a haa
      have := ha.lt b hbb
      omega
    · obtain ⟨b, hb, rfl⟩ := List.mem_map.mp haa
      have := ha.lt b hb
      omega
  rw [Ws_seq]
  refine (search_ok hg pl sea start (by simp) fun q hq => ?_).mono fun rr env s9 hh => ?_
  · rw [List.getElem?_map, List.getElem?_eq_getElem hq]
    have : cnt (glN R) ((as.map Int.toNat).map fun a => (a, 0)) 0 [] q = 0 := by
      unfold cnt
      rw [if_neg (by simp), Nat.add_zero, List.countP_eq_zero]
      intro g _
      simp [nms]
    rw [this, gl_len hq]
    show some _ = some _
    congr 1
  obtain ⟨rfl, S, e4, i, e10, lf, rfl, h9, hd9⟩ := hh
  rw [thenS_nx]
  refine Ws_ret ?_
  simp only [E9, Ok_fArgs, Ok_fCons]
  refine Ok_lcP (Ok_overR ?_)
  simp only [Ok_fArgs, Ok_fCons, Ok_varS, Ok_var0, Ok_fNil]
  rw [Wo_len seqA_tup]
  refine ⟨R.length, by rw [List.length_map], by omega, (List.range R.length).map fun i => D.int (i : Nat), fun _ => true, fun d => match d with
    | .int k => optD (look S k.toNat)
    | d => d, lt_loop (by simp; omega), by simp; omega, fun s i _ => srcR_eq, fun d s hdm ps => ?_, fun s10 p10 h10 => ?_⟩
  · obtain ⟨k, hk, rfl⟩ := List.mem_map.mp hdm
    refine ⟨[some (gameD R), some (.int side), some (.tup (as.map D.int)), some (.tup (R.map rowD)), some (.int (k : Nat)), some (.loc B), some (.loc s5.length), some (.loc s6.length), some (.loc s7.length), some (.int i), e10, none, none, none], rfl, ?_⟩
    simp only [Ok_ret, Ok_fDget1, Ok_varS, Ok_var0]
    refine ⟨trivial, Pre.refl _, fun _ => ⟨by simp [isD3, ps.get h9.sd], ?_⟩⟩
    rw [Wo_dget1I (ps.get h9.sd), val_sI hd9.core.nd]
    refine ⟨?_, Pre.refl _⟩
    show _ = optD (look S ((k : Nat) : Int).toNat)
    rw [Int.toNat_natCast]
    cases look S k <;> rfl
  · rw [S3.filter_all, List.map_map] at h10
    rw [Wo_tupleL h10]
    refine ⟨⟨look S, head_end hd9, fun r v e => val_lt hd9.core ((look_some hd9.core.nd).mp e), rfl⟩, (p04.trans p5).trans (h9.pre.trans p10)⟩
end L_k09

set_option maxHeartbeats 8000000
/-! k09, plain law 10: the law's own judge finds what drawn tells. -/
namespace L_k09
open PySem PyProof.Rows L2 S3
theorem dat_optD {st : Sto} (a : Option Nat) : dat64 st (optD a) = some (match a with
  | none => PyData.none
  | some v => .int (v : Nat)) := by
  cases a <;> simp [optD, dat64, dat, SeqAt.shaped, PyData.canLay0, PyData.depth]
theorem Wo_ne_opt {st : Sto} {a b : Option Nat} {Q : D → Sto → Prop} : Wo oNe (optD a, optD b) st Q ↔ Q (.bl (!decide (a = b))) st := Wo_iff (by
  unfold oNe
  simp only [dat_optD]
  cases a with
  | none => cases b <;> simp [PyData.eqv]
  | some v =>
    cases b with
    | none => simp [PyData.eqv]
    | some w =>
      have : ((v : Int) == (w : Int)) = decide (v = w) := by
        by_cases e : v = w
        · subst e
          simp
        · have : ¬ (v : Int) = w := by omega
          simp [e, this]
      simp [PyData.eqv, this])
theorem Wo_eq_nil {st : Sto} {n m : Nat} {ws : List Int} {Q : D → Sto → Prop} (h : st[n]? = some (.lst (ws.map D.int))) (h2 : st[m]? = some (.lst [])) : Wo oEq (.loc n, .loc m) st Q ↔ Q (.bl ws.isEmpty) st := Wo_iff (by
  unfold oEq
  rw [dat64_ints h, dat64_ints (ws := []) h2]
  cases ws <;> rfl)
theorem Wo_minL {st : Sto} {n : Nat} {ws : List Int} {Q : D → Sto → Prop} (h : st[n]? = some (.lst (ws.map D.int))) (h0 : ws ≠ []) : Wo oMin [.loc n] st Q ↔ Q (.int (minL ws)) st := Wo_iff (by
  unfold oMin
  simp [seqL_loc h, intsOf_map, h0])
theorem Wo_maxL {st : Sto} {n : Nat} {ws : List Int} {Q : D → Sto → Prop} (h : st[n]? = some (.lst (ws.map D.int))) (h0 : ws ≠ []) : Wo oMax [.loc n] st Q ↔ Q (.int (maxL ws)) st := Wo_iff (by
  unfold oMax
  simp [seqL_loc h, intsOf_map, h0])
theorem sclA_ints : ∀ l : List Int, sclA (l.map D.int) = some (l.map V.int)
  | [] => rfl
  | a :: l => by
    show sclA (.int a :: l.map D.int) = _
    unfold sclA
    rw [sclA_ints l]
    rfl
theorem inV_ints (k : Int) : ∀ l : List Int, inV (.int k) (l.map V.int) = decide (k ∈ l)
  | [] => rfl
  | a :: l => by
    have ih := inV_ints k l
    show ((a == k) || inV (.int k) (l.map V.int)) = _
    rw [ih]
    by_cases e : k = a
    · subst e
      simp
    · have e' : ¬ a = k := fun z => e z.symm
      simp [e, e']
theorem Wo_inI {st : Sto} {k : Int} {l : List Int} {Q : D → Sto → Prop} : Wo (oIn false) (.int k, .tup (l.map D.int)) st Q ↔ Q (.bl (decide (k ∈ l))) st := Wo_iff (by
  unfold oIn
  simp only [scl, seqA_tup, sclA_ints, inV_ints]
  rfl)
def toldI (f : Nat → Option Nat) (gs : List Int) : List Int := gs.filterMap fun g => (f g.toNat).map fun (v : Nat) => (v : Int)
theorem told_mem {f : Nat → Option Nat} {gs : List Int} {x : Int} : x ∈ toldI f gs ↔ ∃ g ∈ gs, ∃ v : Nat, f g.toNat = some v ∧ x = v := by
  unfold toldI
  rw [List.mem_filterMap]
  constructor
  · rintro ⟨g, hg, e⟩
    cases h : f g.toNat with
    | none => rw [h] at e; cases e
    | some v =>
      rw [h] at e
      cases e
      exact ⟨g, hg, v, h, rfl⟩
  · rintro ⟨g, hg, v, h, rfl⟩
    exact ⟨g, hg, by rw [h]; rfl⟩
theorem told_len {f : Nat → Option Nat} : ∀ {gs : List Int}, (toldI f gs).length ≤ gs.length ∧ ((toldI f gs).length < gs.length ↔ ∃ g ∈ gs, f g.toNat = none)
  | [] => by simp [toldI]
  | g :: gs => by
    obtain ⟨h1, h2⟩ := told_len (f := f) (gs := gs)
    cases e : f g.toNat with
    | none =>
      have : toldI f (g :: gs) = toldI f gs := by simp [toldI, e]
      rw [this]
      refine ⟨by simp; omega, ⟨fun _ => ⟨g, by simp, e⟩, fun _ => by simp; omega⟩⟩
    | some v =>
      have : toldI f (g :: gs) = (v : Int) :: toldI f gs := by simp [toldI, e]
      rw [this]
      refine ⟨by simp; omega, ?_⟩
      rw [List.length_cons, List.length_cons]
      constructor
      · intro h
        obtain ⟨x, hx, ex⟩ := h2.mp (by omega)
        exact ⟨x, List.mem_cons_of_mem _ hx, ex⟩
      · rintro ⟨x, hx, ex⟩
        rcases List.mem_cons.mp hx with z | z
        · rw [z, e] at ex
          cases ex
        · have := h2.mpr ⟨x, z, ex⟩
          omega
/-- what the law says is due -/
def due (R : List Row) (side : Int) (as : List Int) (f : Nat → Option Nat) (k : Nat) : Option Nat :=
  if (k : Int) ∈ as then some 0 else if ownN R side k = true then (if toldI f (rowAt R k).goals = [] then none else some (1 + minL (toldI f (rowAt R k).goals)).toNat)
  else if (toldI f (rowAt R k).goals).length < (rowAt R k).goals.length then none else some (1 + maxL (toldI f (rowAt R k).goals)).toNat
theorem due_ok {R : List Row} {side : Int} {as : List Int} {f : Nat → Option Nat} (hg : Good R) (ha : Aims9 R.length as) (sol : Sol (n := R.length) (gl := glN R) (own := ownN R side) (aims := as.map Int.toNat) f) {k : Nat} (hk : k < R.length) : f k = due R side as f k := by
  have hrow : rowAt R k = R[k] := by
    unfold rowAt
    rw [List.getD_eq_getElem?_getD, List.getElem?_eq_getElem hk]
    rfl
  have gmem : ∀ {g : Nat}, g ∈ glN R k ↔ ∃ x ∈ (rowAt R k).goals, x.toNat = g := fun {g} => by
    unfold glN
    rw [List.mem_map]
  have aim : k ∈ as.map Int.toNat ↔ (k : Int) ∈ as := by
    rw [List.mem_map]
    constructor
    · rintro ⟨a, h1, rfl⟩
      have := (ha.lt a h1).1
      rw [show ((a.toNat : Nat) : Int) = a by omega]
      exact h1
    · exact fun h => ⟨k, h, by simp⟩
  unfold due
  by_cases h1 : (k : Int) ∈ as
  · rw [if_pos h1]
    exact sol.sAim k hk (aim.mpr h1)
  · rw [if_neg h1]
    have h1' : k ∉ as.map Int.toNat := fun z => h1 (aim.mp z)
    have ne : (rowAt R k).goals ≠ [] := by
      rw [hrow]
      have := (hg.row _ (List.getElem_mem hk)).g1
      intro z
      rw [z] at this
      simp at this
    by_cases h2 : ownN R side k = true
    · rw [if_pos h2]
      rcases sol.sOwn k hk h1' h2 with ⟨h3, h4⟩ | ⟨v, h3, ⟨g, h4, h5⟩, h6⟩
      · have : toldI f (rowAt R k).goals = [] := by
          rw [List.eq_nil_iff_forall_not_mem]
          intro x hx
          obtain ⟨y, hy, w, e, _⟩ := told_mem.mp hx
          rw [h3 _ (gmem.mpr ⟨y, hy, rfl⟩)] at e
          cases e
        rw [if_pos this, h4]
      · obtain ⟨x, hx, rfl⟩ := gmem.mp h4
        have hv : ((v : Nat) : Int) ∈ toldI f (rowAt R k).goals := told_mem.mpr ⟨x, hx, v, h5, rfl⟩
        have hne : toldI f (rowAt R k).goals ≠ [] := List.ne_nil_of_mem hv
        rw [if_neg hne]
        obtain ⟨m1, m2⟩ := minL_spec _ hne
        have a1 := m2 _ hv
        obtain ⟨y, hy, w, e, ew⟩ := told_mem.mp m1
        have a2 := h6 _ (gmem.mpr ⟨y, hy, rfl⟩) w e
        rw [h3]
        congr 1
        omega
    · rw [if_neg h2]
      have h2' : ownN R side k = false := by simpa using h2
      rcases sol.sOth k hk h1' h2' with ⟨⟨g, h3, h3'⟩, h4⟩ | ⟨v, h3, ⟨g, h4, h5⟩, h6⟩
      · obtain ⟨x, hx, rfl⟩ := gmem.mp h3
        rw [if_pos (told_len.2.mpr ⟨x, hx, h3'⟩), h4]
      · obtain ⟨x, hx, rfl⟩ := gmem.mp h4
        have hv : ((v : Nat) : Int) ∈ toldI f (rowAt R k).goals := told_mem.mpr ⟨x, hx, v, h5, rfl⟩
        have hne : toldI f (rowAt R k).goals ≠ [] := List.ne_nil_of_mem hv
        rw [if_neg (fun z => by
          obtain ⟨y, hy, ey⟩ := told_len.2.mp z
          obtain ⟨u, hu, _⟩ := h6 _ (gmem.mpr ⟨y, hy, rfl⟩)
          rw [ey] at hu
          cases hu)]
        obtain ⟨m1, m2⟩ := maxL_spec _ hne
        have a1 := m2 _ hv
        obtain ⟨y, hy, w, e, ew⟩ := told_mem.mp m1
        obtain ⟨u, hu, hu2⟩ := h6 _ (gmem.mpr ⟨y, hy, rfl⟩)
        rw [e] at hu
        cases hu
        rw [h3]
        congr 1
        omega
end L_k09

set_option maxHeartbeats 8000000
/-! k09, plain law 11: the law's judge, walked. -/
namespace L_k09
open PySem PyProof.Rows L2 S3
abbrev fnd (R : List Row) (f : Nat → Option Nat) : List D := (List.range R.length).map fun r => optD (f r)
theorem fnd_get {R : List Row} {f : Nat → Option Nat} {k : Nat} (h : k < R.length) : (fnd R f)[k]? = some (optD (f k)) := by
  unfold fnd
  rw [List.getElem?_map, List.getElem?_range h]
  rfl
theorem td_opt {st : Sto} (a : Option Nat) : Td st (optD a) := by
  cases a
  · exact .non
  · exact .int _
theorem is_tuple_ok {st : Sto} {ds : List D} {n : Int} (h : (ds.length : Int) = n) : Wd d_is_tuple [.tup ds, .int n] st fun r s => r = .bl true ∧ Pre st s := by
  refine Wd_of ?_
  show Ws _ [some (.tup ds), some (.int n)] _ _
  unfold f_is_tuple
  refine ws_ret (d := .bl (true && decide ((ds.length : Int) = n))) (pv_andV (pv_isTup (pv_var rfl) (.tup ds)) fun _ => pv_B (pv_len (pv_var rfl)) (pv_var (i := 1) (d := .int n) rfl) (pvo_iff fun s Q p => Wo_eqI)) fun s p => ⟨by simp [h], p⟩
theorem toldD {f : Nat → Option Nat} : ∀ gs : List Int, ((gs.map fun g => optD (f g.toNat)).filter fun d => !isN d) = (toldI f gs).map D.int
  | [] => rfl
  | g :: gs => by
    have ih := toldD (f := f) gs
    rw [List.map_cons, List.filter_cons]
    cases e : f g.toNat with
    | none =>
      have h1 : toldI f (g :: gs) = toldI f gs := by simp [toldI, e]
      rw [h1, if_neg (by simp [optD, isN]), ih]
    | some v =>
      have h1 : toldI f (g :: gs) = (v : Int) :: toldI f gs := by simp [toldI, e]
      rw [h1, if_pos (by simp [optD, isN]), ih]
      rfl
theorem is_drawn_ok {st : Sto} {R : List Row} {side : Int} {as : List Int} {f : Nat → Option Nat} (hg : Good R) (ha : Aims9 R.length as) (sol : Sol (n := R.length) (gl := glN R) (own := ownN R side) (aims := as.map Int.toNat) f) (hv : ∀ r v, f r = some v → v < R.length) :
    Wd d_is_drawn [gameD R, .int side, .tup (as.map D.int), .tup (fnd R f)] st fun r s => r = .bl true ∧ Pre st s := by
  have hR := hg.most
  have hfl : (fnd R f).length = R.length := by simp [fnd]
  refine Wd_of ?_
  show Ws _ [some (gameD R), some (.int side), some (.tup (as.map D.int)), some (.tup (fnd R f)), none, none, none, none, none, none, none] _ _
  unfold f_is_drawn
  have hrows : ∀ {e4 e5 e6 e7 e8 e9 e10 : Option D} {s : Sto}, Pv (fB oIx (fVar 0) (ret3 (.int 1))) [some (gameD R), some (.int side), some (.tup (as.map D.int)), some (.tup (fnd R f)), e4, e5, e6, e7, e8, e9, e10] s (.tup (R.map rowD)) := fun {_ _ _ _ _ _ _ _} => pv_at 1 (pv_var (d := gameD R) rfl) rfl
  refine ws_guard (B := !true) (pv_not (pv_asB (pv_call (ds := [.tup (fnd R f), .int (R.map rowD).length]) (pv_cons (pv_var rfl) (pv_cons (pv_len hrows) pv_nil)) rfl fun s p => is_tuple_ok (by rw [hfl, List.length_map])))) (fun z => by cases z) fun _ s p => ?_
  rw [Ws_seq]
  refine Ws_for (Ok_overET ?_)
  simp only [Ok_fCons]
  refine (hrows s (Pre.refl s)).mono fun x s1 hx => ?_
  obtain ⟨rfl, p1⟩ := hx
  rw [Ok_fNil]
  refine ⟨_, R.map rowD, rfl, rfl, R.length, fun k env s => (∃ e4 e5 e6, env = [some (gameD R), some (.int side), some (.tup (as.map D.int)), some (.tup (fnd R f)), e4, e5, e6, none, none, none, none]) ∧ Pre st s, lt_loop (by omega), ⟨⟨none, none, none, rfl⟩, p.trans p1⟩, ?_, ?_⟩
  · rintro k env s2 hk ⟨⟨e4, e5, e6, rfl⟩, ps⟩
    refine ⟨.tup [.int (k : Nat), rowD (rowAt R k)], [some (gameD R), some (.int side), some (.tup (as.map D.int)), some (.tup (fnd R f)), some (.int (k : Nat)), some (rowD (rowAt R k)), e6, none, none, none, none], s2, by unfold srcET; rw [row_get hk], rfl, ?_⟩
    rw [Ws_seq]
    refine Ws_set ?_
    simp only [Ok_fB, Ok_varS, Ok_var0]
    rw [Wo_ix seqA_tup (fnd_get hk), thenS_nx]
    show Ws _ [some (gameD R), some (.int side), some (.tup (as.map D.int)), some (.tup (fnd R f)), some (.int (k : Nat)), some (rowD (rowAt R k)), some (optD (f k)), none, none, none, none] s2 _
    have v6 : Pv (fVar 6) [some (gameD R), some (.int side), some (.tup (as.map D.int)), some (.tup (fnd R f)), some (.int (k : Nat)), some (rowD (rowAt R k)), some (optD (f k)), none, none, none, none] s2 (optD (f k)) := pv_var rfl
    have c1 := pv_asB (pv_U (o := oIsN true) (d := .bl (!isN (optD (f k)))) v6 (pvo fun s _ => rfl))
    have c2 := pv_not (pv_asB (pv_call (dd := d_is_number) (n := 2) (ds := [optD (f k), .int (R.map rowD).length]) (d := .bl (isNum (optD (f k)) (R.map rowD).length)) (pv_cons v6 (pv_cons (pv_len hrows) pv_nil)) rfl fun s p => is_number_ok (td_opt _)))
    refine ws_if (pv_and c1 fun _ => c2) fun s3 p3 => ?_
    have : (!isN (optD (f k)) && !isNum (optD (f k)) (R.map rowD).length) = false := by
      cases e : f k with
      | none => rfl
      | some v =>
        have := hv k v e
        show (!false && !(decide (0 ≤ ((v : Nat) : Int)) && decide (((v : Nat) : Int) < ((R.map rowD).length : Nat)))) = false
        rw [List.length_map]
        simp
        omega
    rw [this, if_neg (by simp), Ws_nop]
    exact ⟨⟨_, _, _, rfl⟩, ps.trans p3⟩
  rintro env s2 ⟨⟨e4, e5, e6, rfl⟩, ps⟩
  refine ⟨by unfold srcET; simp, ?_⟩
  rw [thenS_nx, Ws_seq]
  refine Ws_for (Ok_overET ?_)
  simp only [Ok_fCons]
  refine (hrows s2 (Pre.refl s2)).mono fun x s3 hx => ?_
  obtain ⟨rfl, p3⟩ := hx
  rw [Ok_fNil]
  refine ⟨_, R.map rowD, rfl, rfl, R.length, fun k env s => (∃ e4 e5 e6 e7 e8 e9, env = [some (gameD R), some (.int side), some (.tup (as.map D.int)), some (.tup (fnd R f)), e4, e5, e6, e7, e8, e9, none]) ∧ Pre st s, lt_loop (by omega), ⟨⟨e4, e5, e6, none, none, none, rfl⟩, ps.trans p3⟩, ?_, ?_⟩
  · rintro k env s4 hk ⟨⟨e4, e5, e6, e7, e8, e9, rfl⟩, ps4⟩
    refine ⟨.tup [.int (k : Nat), rowD (rowAt R k)], [some (gameD R), some (.int side), some (.tup (as.map D.int)), some (.tup (fnd R f)), some (.int (k : Nat)), some (rowD (rowAt R k)), e6, e7, e8, e9, none], s4, by unfold srcET; rw [row_get hk], rfl, ?_⟩
    have hrow : rowAt R k = R[k] := by
      unfold rowAt
      rw [List.getD_eq_getElem?_getD, List.getElem?_eq_getElem hk]
      rfl
    have gr : GoodRow R.length (rowAt R k) := by
      rw [hrow]
      exact hg.row _ (List.getElem_mem hk)
    have dk := due_ok hg ha sol hk
    obtain ⟨gs, egs⟩ : ∃ gs, gs = (rowAt R k).goals := ⟨_, rfl⟩
    have g12 : gs.length ≤ 12 := by rw [egs]; exact gr.g4
    -- the goals' values
    rw [Ws_seq]
    refine Ws_set (Ok_lcP (Ok_overT ?_))
    have hp2 : Pv (fB oIx (fVar 5) (ret3 (.int 2))) [some (gameD R), some (.int side), some (.tup (as.map D.int)), some (.tup (fnd R f)), some (.int (k : Nat)), some (rowD (rowAt R k)), e6, e7, e8, e9, none] s4 (.tup (gs.map D.int)) := pv_at 2 (pv_var (d := rowD (rowAt R k)) rfl) (by rw [egs]; rfl)
    refine (hp2 s4 (Pre.refl s4)).mono fun x s5 hx => ?_
    obtain ⟨rfl, p5⟩ := hx
    refine ⟨_, rfl, gs.map D.int, fun _ => true, fun d => match d with
      | .int g => optD (f g.toNat)
      | d => d, lt_loop (by simp; omega), by simp; omega, fun s i _ => rfl, fun d s hdm pss => ?_, fun s6 p6 h6 => ?_⟩
    · obtain ⟨g, hgm, rfl⟩ := List.mem_map.mp hdm
      obtain ⟨g0, g1⟩ := gr.gl g (by rw [← egs]; exact hgm)
      refine ⟨[some (gameD R), some (.int side), some (.tup (as.map D.int)), some (.tup (fnd R f)), some (.int (k : Nat)), some (rowD (rowAt R k)), e6, e7, e8, e9, some (.int g)], rfl, ?_⟩
      simp only [Ok_ret, Ok_fB, Ok_varS, Ok_var0]
      rw [Wo_ixI seqA_tup g0 (fnd_get (by omega))]
      exact ⟨trivial, Pre.refl _, fun _ => ⟨rfl, Pre.refl _⟩⟩
    rw [S3.filter_all, List.map_map] at h6
    have h6 : s6[s5.length]? = some (.lst (gs.map fun g => optD (f g.toNat))) := h6
    rw [thenS_nx]
    show Ws _ [some (gameD R), some (.int side), some (.tup (as.map D.int)), some (.tup (fnd R f)), some (.int (k : Nat)), some (rowD (rowAt R k)), e6, some (.loc s5.length), e8, e9, none] s6 _
    rw [Ws_seq]
    refine Ws_set (Ok_lcP (Ok_overL ?_))
    simp only [Ok_varS, Ok_var0]
    refine ⟨_, seqL_loc h6, gs.map fun g => optD (f g.toNat), fun d => !isN d, fun d => d, lt_loop (by simp; omega), by simp; omega, fun s i pp => srcL_loc (pp.get h6), fun d s hdm pss => ?_, fun s7 p7 h7 => ?_⟩
    · refine ⟨[some (gameD R), some (.int side), some (.tup (as.map D.int)), some (.tup (fnd R f)), some (.int (k : Nat)), some (rowD (rowAt R k)), some d, some (.loc s5.length), e8, e9, none], rfl, ?_⟩
      have c1 := pv_asB (pv_U (o := oIsN true) (d := .bl (!isN d)) (env := [some (gameD R), some (.int side), some (.tup (as.map D.int)), some (.tup (fnd R f)), some (.int (k : Nat)), some (rowD (rowAt R k)), some d, some (.loc s5.length), e8, e9, none]) (st := s) (pv_var (i := 6) rfl) (pvo fun s _ => rfl))
      refine (c1 s (Pre.refl s)).mono fun b s2 hb => ⟨hb.1, hb.2, fun _ => ?_⟩
      simp only [Ok_varS, Ok_var0]
      exact ⟨trivial, Pre.refl _⟩
    rw [toldD, List.map_id'] at h7
    rw [thenS_nx]
    show Ws _ [some (gameD R), some (.int side), some (.tup (as.map D.int)), some (.tup (fnd R f)), some (.int (k : Nat)), some (rowD (rowAt R k)), e6, some (.loc s5.length), some (.loc s6.length), e9, none] s7 _
    have h6' := p7.get h6
    have ps7 : Pre st s7 := ((ps4.trans p5).trans p6).trans p7
    rw [Ws_seq]
    -- what is due
    have dueW : Ws (fIfS (bnd (fB (oIn false) (fVar 4) (fVar 2)) asB)
    (fAsg (ret3 (.int 0)) (gVar 9))
    (fIfS (bnd (fB oEq (fB oIx (fVar 5) (ret3 (.int 0))) (fVar 1)) asB)
    (fAsg (fIf (bnd (fB oEq (fVar 8) (fArgs oLst fNil)) asB) (ret3 .non) (fB oAdd (ret3 (.int 1)) (fArgs oMin (fCons (fVar 8) fNil)))) (gVar 9))
    (fAsg (fIf (bnd (fB oLt (fArgs oLen (fCons (fVar 8) fNil)) (fArgs oLen (fCons (fVar 7) fNil))) asB) (ret3 .non) (fB oAdd (ret3 (.int 1)) (fArgs oMax (fCons (fVar 8) fNil)))) (gVar 9))))
      [some (gameD R), some (.int side), some (.tup (as.map D.int)), some (.tup (fnd R f)), some (.int (k : Nat)), some (rowD (rowAt R k)), e6, some (.loc s5.length), some (.loc s6.length), e9, none] s7 fun rr env s8 => rr = .nx ∧ env = [some (gameD R), some (.int side), some (.tup (as.map D.int)), some (.tup (fnd R f)), some (.int (k : Nat)), some (rowD (rowAt R k)), e6, some (.loc s5.length), some (.loc s6.length), some (optD (f k)), none] ∧ Pre s7 s8 := by
      rw [dk]
      unfold due
      refine Ws_if ?_
      simp only [Ok_bnd, Ok_fB, Ok_varS, Ok_var0, Wo_inI, Ok_asB, D.bl.injEq, exists_eq_left']
      by_cases c1 : (k : Int) ∈ as
      · rw [if_pos (by simpa using c1), if_pos c1]
        exact Ws_set (Ok_ret.mpr ⟨rfl, rfl, Pre.refl _⟩)
      · rw [if_neg (by simpa using c1), if_neg c1]
        refine Ws_if ?_
        simp only [Ok_bnd, Ok_fB, Ok_varS, Ok_var0, Ok_ret]
        rw [show (0 : Int) = ((0 : Nat) : Int) by rfl, Wo_ix (n := 0) (d := .int (rowAt R k).own) (by unfold rowD; exact seqA_tup) rfl, Wo_eqI]
        simp only [Ok_asB, D.bl.injEq, exists_eq_left']
        rw [← egs]
        by_cases c2 : (rowAt R k).own = side
        · rw [if_pos (by simpa using c2), if_pos (by simp [ownN, c2])]
          refine Ws_set ?_
          simp only [Ok_fIf, Ok_bnd, Ok_fB, Ok_varS, Ok_var0, Ok_fArgs, Ok_fNil, Ok_ret]
          rw [Wo_lst (small_sz (by simp)), Wo_eq_nil (app_get h7) app_new]
          simp only [Ok_asB, D.bl.injEq, exists_eq_left']
          by_cases c3 : toldI f gs = []
          · rw [if_pos (by rw [c3]; rfl), if_pos c3]
            exact ⟨trivial, rfl, Pre.app _ _⟩
          · rw [if_neg (by simpa using c3), if_neg c3]
            simp only [Ok_fCons, Ok_varS, Ok_var0, Ok_fNil]
            rw [Wo_minL (app_get h7) c3, Wo_add]
            have m := (minL_spec _ c3).1
            obtain ⟨y, _, w, _, ew⟩ := told_mem.mp m
            have e : optD (some (1 + minL (toldI f gs)).toNat) = .int (1 + minL (toldI f gs)) := by
              show D.int (((1 + minL (toldI f gs)).toNat : Nat) : Int) = _
              rw [show (((1 + minL (toldI f gs)).toNat : Nat) : Int) = 1 + minL (toldI f gs) by omega]
            rw [e]
            exact ⟨trivial, rfl, Pre.app _ _⟩
        · rw [if_neg (by simpa using c2), if_neg (by simp [ownN, c2])]
          refine Ws_set ?_
          simp only [Ok_fIf, Ok_bnd, Ok_fB, Ok_varS, Ok_var0, Ok_fArgs, Ok_fCons, Ok_fNil, Ok_ret]
          rw [Wo_len (seqA_loc h7), Wo_len (seqA_loc h6'), Wo_lt]
          simp only [Ok_asB, D.bl.injEq, exists_eq_left']
          rw [List.length_map, List.length_map]
          by_cases c3 : (toldI f gs).length < gs.length
          · rw [if_pos (by simp; omega), if_pos c3]
            exact ⟨trivial, rfl, Pre.refl _⟩
          · have ne : toldI f gs ≠ [] := by
              intro z
              rw [z] at c3
              have := gr.g1
              rw [← egs] at this
              simp at c3
              rw [c3] at this
              simp at this
            rw [if_neg (by simp; omega), if_neg c3]
            rw [Wo_maxL h7 ne, Wo_add]
            have m := (maxL_spec _ ne).1
            obtain ⟨y, _, w, _, ew⟩ := told_mem.mp m
            have e : optD (some (1 + maxL (toldI f gs)).toNat) = .int (1 + maxL (toldI f gs)) := by
              show D.int (((1 + maxL (toldI f gs)).toNat : Nat) : Int) = _
              rw [show (((1 + maxL (toldI f gs)).toNat : Nat) : Int) = 1 + maxL (toldI f gs) by omega]
            rw [e]
            exact ⟨trivial, rfl, Pre.refl _⟩
    refine dueW.mono fun rr env s8 hh => ?_
    obtain ⟨rfl, rfl, p8⟩ := hh
    rw [thenS_nx]
    refine Ws_if ?_
    simp only [Ok_bnd, Ok_fB, Ok_varS, Ok_var0]
    rw [Wo_ix seqA_tup (fnd_get hk), Wo_ne_opt]
    simp only [Ok_asB, D.bl.injEq, exists_eq_left']
    rw [if_neg (by simp), Ws_nop]
    exact ⟨⟨_, _, _, _, _, _, rfl⟩, ps7.trans p8⟩
  rintro env s4 ⟨⟨e4, e5, e6, e7, e8, e9, rfl⟩, ps4⟩
  refine ⟨by unfold srcET; simp, ?_⟩
  rw [thenS_nx]
  exact Ws_ret (Ok_ret.mpr ⟨rfl, ps4⟩)
end L_k09

set_option maxHeartbeats 8000000
/-! k09, plain law 12: what is refused. -/
namespace L_k09
open PySem PyProof.Rows L2 S3
theorem drawn_er_game {st : Sto} {x o b : D} (h : TdGame st x) (hg : isGame x = false) : We d_p_drawn [x, o, b] st 2 := by
  refine We_of ?_
  show Ws _ [some x, some o, some b, none, none, none, none, none, none, none, none, none, none, none] _ _
  unfold f_p_drawn
  rw [Ws_seq]
  exact Ws_drop_er (ds := [x]) (pv_cons (pv_var rfl) pv_nil) rfl (fun s p => need_game_er (h.pre p) hg) fun s p => ⟨rfl, p⟩
theorem drawn_er_side {st : Sto} {R : List Row} {o b : D} (hR : Good R) (h : Td st o) (hg : isNum o 2 = false) : We d_p_drawn [gameD R, o, b] st 3 := by
  refine We_of ?_
  show Ws _ [some (gameD R), some o, some b, none, none, none, none, none, none, none, none, none, none, none] _ _
  unfold f_p_drawn
  rw [Ws_seq]
  refine Ws_drop_ok (ds := [gameD R]) (d := .non) (pv_cons (pv_var rfl) pv_nil) rfl (fun s p => need_game_ok (td_game R) (game_good hR)) fun s1 p1 => ?_
  rw [thenS_nx, Ws_seq]
  exact Ws_drop_er (ds := [o]) (pv_cons (pv_var rfl) pv_nil) rfl (fun s p => need_side_er (h.pre (p1.trans p)) hg) fun s p => ⟨rfl, p1.trans p⟩
theorem drawn_er_aims {st : Sto} {R : List Row} {side : Int} {b : D} (hR : Good R) (h0 : 0 ≤ side) (h1 : side < 2) (h : TdAims st b) (hg : areAims b R.length = false) : We d_p_drawn [gameD R, .int side, b] st 1 := by
  have hsd : isNum (.int side) 2 = true := by
    show (decide (0 ≤ side) && decide (side < 2)) = true
    simp [h0, h1]
  refine We_of ?_
  show Ws _ [some (gameD R), some (.int side), some b, none, none, none, none, none, none, none, none, none, none, none] _ _
  unfold f_p_drawn
  rw [Ws_seq]
  refine Ws_drop_ok (ds := [gameD R]) (d := .non) (pv_cons (pv_var rfl) pv_nil) rfl (fun s p => need_game_ok (td_game R) (game_good hR)) fun s1 p1 => ?_
  rw [thenS_nx, Ws_seq]
  refine Ws_drop_ok (ds := [.int side]) (d := .non) (pv_cons (pv_var rfl) pv_nil) rfl (fun s p => need_side_ok (.int side) hsd) fun s2 p2 => ?_
  rw [thenS_nx, Ws_seq]
  refine ws_set (d := .tup (R.map rowD)) (pv_at 1 (pv_var (d := gameD R) rfl) rfl) fun s3 p3 => ?_
  rw [thenS_nx]
  have p03 := (p1.trans p2).trans p3
  show Ws _ [some (gameD R), some (.int side), some b, some (.tup (R.map rowD)), none, none, none, none, none, none, none, none, none, none] s3 _
  refine ws_seq_if (B := true) (by
    have key := pv_not (pv_asB (pv_call (d := .bl (areAims b (R.map rowD).length)) (ds := [b, .int (R.map rowD).length]) (env := [some (gameD R), some (.int side), some b, some (.tup (R.map rowD)), none, none, none, none, none, none, none, none, none, none]) (st := s3) (n := 2) (pv_cons (fa := fVar 2) (pv_var rfl) (pv_cons (pv_len (fa := fVar 3) (pv_var rfl)) pv_nil)) rfl fun s p => are_aims_ok (h.pre (p03.trans p))))
    rw [List.length_map, hg] at key
    exact key) fun s4 p4 => ?_
  rw [if_pos rfl, Ws_now, thenS_er]
  exact ⟨rfl, p03.trans p4⟩
/-! ### kinds, by a look -/
def tdB (ls : List Nat) : D → Bool
  | .non => true
  | .bl _ => true
  | .int _ => true
  | .str _ => true
  | .tup _ => true
  | .loc n => decide (n ∈ ls)
  | _ => false
def subB (ls : List Nat) : D → Bool
  | .tup gs => gs.all (tdB ls)
  | _ => true
def rowB (ls : List Nat) : D → Bool
  | .tup ds => ds.all (tdB ls) && ds.all (subB ls)
  | d => tdB ls d
def partB (ls : List Nat) : D → Bool
  | .str z => PyData.strOk z
  | .tup rs => rs.all (rowB ls)
  | _ => true
def gameB (ls : List Nat) : D → Bool
  | .tup ds => ds.all (tdB ls) && ds.all (partB ls)
  | d => tdB ls d
section
variable {s : Sto} {ls : List Nat}
theorem tdB_ok (hl : ∀ n ∈ ls, ∃ ds, s[n]? = some (.lst ds)) {d : D} (h : tdB ls d = true) : Td s d := by
  cases d with
  | non => exact .non
  | bl b => exact .bl b
  | int i => exact .int i
  | str x => exact .str x
  | tup ds => exact .tup ds
  | loc n =>
    obtain ⟨ds, e⟩ := hl n (by simpa [tdB] using h)
    exact .lst e
  | _ => cases h
theorem rowB_ok (hl : ∀ n ∈ ls, ∃ ds, s[n]? = some (.lst ds)) {d : D} (h : rowB ls d = true) : TdRow s d := by
  refine ⟨?_, fun ds e => ?_⟩
  · cases d with
    | tup ds => exact .tup ds
    | _ => exact tdB_ok hl h
  · subst e
    obtain ⟨h1, h2⟩ := Bool.and_eq_true_iff.mp (show (ds.all (tdB ls) && ds.all (subB ls)) = true from h)
    exact ⟨fun d hd => tdB_ok hl (List.all_eq_true.mp h1 d hd), fun gs hg d hd => tdB_ok hl (List.all_eq_true.mp (show gs.all (tdB ls) = true from List.all_eq_true.mp h2 _ hg) d hd)⟩
theorem gameB_ok (hl : ∀ n ∈ ls, ∃ ds, s[n]? = some (.lst ds)) {d : D} (h : gameB ls d = true) : TdGame s d := by
  have key : ∀ ds, d = .tup ds → ds.all (tdB ls) = true ∧ ds.all (partB ls) = true := fun ds e => by
    subst e
    exact Bool.and_eq_true_iff.mp (show (ds.all (tdB ls) && ds.all (partB ls)) = true from h)
  refine ⟨?_, fun ds e d hd => tdB_ok hl (List.all_eq_true.mp (key ds e).1 d hd), fun ds e z hz => List.all_eq_true.mp (key ds e).2 _ hz, fun ds e rs hr r hrr => rowB_ok hl (List.all_eq_true.mp (show rs.all (rowB ls) = true from List.all_eq_true.mp (key ds e).2 _ hr) r hrr)⟩
  cases d with
  | tup ds => exact .tup ds
  | _ => exact tdB_ok hl h
theorem aimsB_ok (hl : ∀ n ∈ ls, ∃ ds, s[n]? = some (.lst ds)) {d : D} (h : rowB ls d = true) (h2 : ∀ ds, d = .tup ds → ds.length ≤ 1000) : TdAims s d := by
  have r := rowB_ok hl h
  exact ⟨r.1, fun ds e => ⟨h2 ds e, (r.2 ds e).1⟩⟩
end
theorem Drw.lt {st : Sto} {p w c T : Nat} (h : Drw st p w c T) : p < st.length ∧ w < st.length ∧ c < st.length := by
  obtain ⟨r, t, ws, cs, y⟩ := h
  exact ⟨(List.getElem?_eq_some_iff.mp y.hp).1, (List.getElem?_eq_some_iff.mp y.hw).1, (List.getElem?_eq_some_iff.mp y.hc).1⟩
theorem bad_aims_ok {st : Sto} {p w c T n : Nat} (h : Drw st p w c T) (hT : T < 2 ^ 39) (hn : 1 ≤ n) : Wd d_bad_aims [.loc p, .int n] st fun r s => (TdAims s r ∧ areAims r n = false) ∧ Drw s p w c (T + 1) ∧ Frm p w st s := by
  obtain ⟨hp, hw, hc⟩ := Drw.lt h
  refine Wd_of ?_
  show Ws _ [some (.loc p), some (.int n)] _ _
  unfold f_bad_aims
  refine Ws_ret ?_
  simp only [Ok_fCall, Ok_fArgs, Ok_fB, Ok_fU, Ok_fCons, Ok_varS, Ok_var0, Ok_fNil, Ok_ret]
  have neg : ∀ (i : Int) (s : Sto) (Q : D → Sto → Prop), Wo oNeg (.int i) s Q ↔ Q (.int (-i)) s := fun i s Q => Wo_iff rfl
  repeat (first | rw [Wo_tup (small_sz (by simp))] | rw [Wo_lst (small_sz (by simp))] | rw [neg] | rw [Wo_sub])
  refine ⟨rfl, ?_⟩
  have d2 : Drw (st ++ [O.lst [.int 0]] ++ [O.lst [.non, .int 5, .loc st.length, .tup [.int n], .tup [.int (-1)], .tup [.bl true], .tup [.str "0"], .tup [.int 0, .int 0], .tup [.int (n - 1), .int n], .tup [.non], .tup [.tup [.int 0]]]]) p w c T := (h.app _).app _
  refine (pick_ok d2 (by omega) (fun s f => seqA_loc (f.get app_new (by simp; omega) (by simp; omega))) (by simp) (by simp)).mono fun r s hr => ?_
  obtain ⟨hr, d3, f3⟩ := hr
  have hl : ∀ m ∈ [st.length], ∃ ds, s[m]? = some (.lst ds) := fun m hm => by
    rw [List.mem_singleton.mp hm]
    exact ⟨_, f3.get (app_get app_new) (by omega) (by omega)⟩
  refine ⟨?_, d3, ((Frm.app _).trans (Frm.app _)).trans f3⟩
  have n1 : isNum (.int n) n = false := by
    show (decide (0 ≤ ((n : Nat) : Int)) && decide (((n : Nat) : Int) < ((n : Nat) : Int))) = false
    simp
  have n2 : isNum (.int 0) n = true := by
    show (decide ((0 : Int) ≤ 0) && decide ((0 : Int) < ((n : Nat) : Int))) = true
    simp
    omega
  simp only [List.mem_cons, List.not_mem_nil, or_false] at hr
  rcases hr with rfl | rfl | rfl | rfl | rfl | rfl | rfl | rfl | rfl | rfl | rfl
  · exact ⟨aimsB_ok hl rfl (fun ds e => by cases e), rfl⟩
  · exact ⟨aimsB_ok hl rfl (fun ds e => by cases e), rfl⟩
  · exact ⟨aimsB_ok hl (by simp [rowB, tdB]) (fun ds e => by cases e), rfl⟩
  · exact ⟨aimsB_ok hl rfl (fun ds e => by cases e; simp), by simp [areAims, n1]⟩
  · exact ⟨aimsB_ok hl rfl (fun ds e => by cases e; simp), by simp [areAims, isNum]⟩
  · exact ⟨aimsB_ok hl rfl (fun ds e => by cases e; simp), by simp [areAims, isNum]⟩
  · exact ⟨aimsB_ok hl rfl (fun ds e => by cases e; simp), by simp [areAims, isNum]⟩
  · exact ⟨aimsB_ok hl rfl (fun ds e => by cases e; simp), by simp [areAims, n2, intsD, incr]⟩
  · exact ⟨aimsB_ok hl rfl (fun ds e => by cases e; simp), by simp [areAims, n1]⟩
  · exact ⟨aimsB_ok hl rfl (fun ds e => by cases e; simp), by simp [areAims, isNum]⟩
  · exact ⟨aimsB_ok hl rfl (fun ds e => by cases e; simp), by simp [areAims, isNum]⟩
def Bads (k : Nat) (s : Sto) (A : List D) : Prop := ∃ ls : List Nat, (∀ n ∈ ls, k ≤ n ∧ ∃ ds, s[n]? = some (.lst ds)) ∧ ∀ x ∈ A, gameB ls x = true ∧ isGame x = false
theorem gameB_mono {ls ls' : List Nat} (h : ∀ n ∈ ls, n ∈ ls') : ∀ {d : D}, gameB ls d = true → gameB ls' d = true := by
  have t : ∀ {d : D}, tdB ls d = true → tdB ls' d = true := fun {d} e => by
    cases d <;> first | rfl | (cases e; done) | (simp only [tdB, decide_eq_true_eq] at e ⊢; exact h _ e)
  have all : ∀ {l : List D} {f g : D → Bool}, (∀ d, f d = true → g d = true) → l.all f = true → l.all g = true := fun {l f g} k e => List.all_eq_true.mpr fun d hd => k d (List.all_eq_true.mp e d hd)
  have sb : ∀ d : D, subB ls d = true → subB ls' d = true := fun d e => by
    cases d <;> first | rfl | exact all (fun d => t) e
  have rb : ∀ d : D, rowB ls d = true → rowB ls' d = true := fun d e => by
    cases d with
    | tup ds =>
      obtain ⟨h1, h2⟩ := Bool.and_eq_true_iff.mp (show (ds.all (tdB ls) && ds.all (subB ls)) = true from e)
      exact Bool.and_eq_true_iff.mpr ⟨all (fun d => t) h1, all sb h2⟩
    | loc n => exact t (d := .loc n) e
    | _ => first | rfl | cases e
  have pb : ∀ d : D, partB ls d = true → partB ls' d = true := fun d e => by
    cases d <;> first | rfl | exact e | exact all rb e
  intro d e
  cases d with
  | tup ds =>
    obtain ⟨h1, h2⟩ := Bool.and_eq_true_iff.mp (show (ds.all (tdB ls) && ds.all (partB ls)) = true from e)
    exact Bool.and_eq_true_iff.mpr ⟨all (fun d => t) h1, all pb h2⟩
  | loc n => exact t (d := .loc n) e
  | _ => first | rfl | cases e
theorem Bads.app {k0 k1 : Nat} {s s' : Sto} {A B : List D} (h : Bads k0 s A) (p : Pre s s') (k : Bads k1 s' B) (hk : k0 ≤ k1) : Bads k0 s' (A ++ B) := by
  obtain ⟨l1, a1, a2⟩ := h
  obtain ⟨l2, b1, b2⟩ := k
  refine ⟨l1 ++ l2, fun n hn => ?_, fun x hx => ?_⟩
  · rcases List.mem_append.mp hn with z | z
    · obtain ⟨q, ds, e⟩ := a1 n z
      exact ⟨q, ds, p.get e⟩
    · obtain ⟨q, r⟩ := b1 n z
      exact ⟨by omega, r⟩
  · rcases List.mem_append.mp hx with z | z
    · exact ⟨gameB_mono (fun n hn => List.mem_append_left _ hn) (a2 x z).1, (a2 x z).2⟩
    · exact ⟨gameB_mono (fun n hn => List.mem_append_right _ hn) (b2 x z).1, (b2 x z).2⟩
abbrev rowZ : D := .tup [.int 0, .int 0, .tup [.int 0]]
def BadE (f : F3 D) (x0 : D) (x2 : Option D) (n : Nat) : Prop := ∀ st : Sto, Ok f [some x0, some rowZ, x2] st fun d s => ∃ L A, d = .loc L ∧ s[L]? = some (.lst A) ∧ st.length ≤ L ∧ Pre st s ∧ Bads st.length s A ∧ A.length = n
theorem bad1 {x0 : D} {x2 : Option D} : BadE (fArgs oLst (fCons (ret3 .non) (fCons (ret3 (.int 5)) (fCons (ret3 (.str "game")) (fCons (fArgs oTup fNil) (fCons (fArgs oTup (fCons (ret3 (.str "game")) fNil)) (fCons (fArgs oTup (fCons (ret3 (.str "game")) (fCons (fArgs oTup fNil) fNil))) (fCons (fArgs oTup (fCons (ret3 (.str "games")) (fCons (fArgs oTup (fCons (fVar 1) fNil)) fNil))) (fCons (fArgs oTup (fCons (ret3 (.str "game")) (fCons (fArgs oLst (fCons (fVar 1) fNil)) fNil))) (fCons (fArgs oLst (fCons (ret3 (.str "game")) (fCons (fArgs oTup (fCons (fVar 1) fNil)) fNil))) (fCons (fArgs oTup (fCons (ret3 (.str "game")) (fCons (fArgs oTup (fCons (fVar 1) (fCons (ret3 .non) fNil))) fNil))) fNil))))))))))) x0 x2 10 := by
  intro st
  simp only [Ok_fArgs, Ok_fCons, Ok_varS, Ok_var0, Ok_fNil, Ok_ret]
  repeat (first | rw [Wo_tup (small_sz (by simp))] | rw [Wo_lst (small_sz (by simp))])
  refine ⟨_, _, rfl, app_new, by simp, ((Pre.app _ _).trans (Pre.app _ _)).trans (Pre.app _ _), ⟨[st.length, (st ++ [O.lst [rowZ]]).length], ?_, ?_⟩, rfl⟩
  · intro n hn
    simp only [List.mem_cons, List.not_mem_nil, or_false] at hn
    rcases hn with rfl | rfl
    · exact ⟨Nat.le_refl _, _, app_get (app_get app_new)⟩
    · exact ⟨by simp, _, app_get app_new⟩
  · intro x hx
    simp only [List.mem_cons, List.not_mem_nil, or_false] at hx
    rcases hx with rfl | rfl | rfl | rfl | rfl | rfl | rfl | rfl | rfl | rfl
    · exact ⟨rfl, rfl⟩
    · exact ⟨rfl, rfl⟩
    · exact ⟨rfl, rfl⟩
    · exact ⟨rfl, rfl⟩
    · exact ⟨gameB_mono (ls := []) (by simp) (by decide +kernel), rfl⟩
    · exact ⟨gameB_mono (ls := []) (by simp) (by decide +kernel), by decide +kernel⟩
    · exact ⟨gameB_mono (ls := []) (by simp) (by decide +kernel), by decide +kernel⟩
    · exact ⟨by simp [gameB, tdB, partB]; decide +kernel, rfl⟩
    · exact ⟨by simp [gameB, tdB], rfl⟩
    · exact ⟨gameB_mono (ls := []) (by simp) (by decide +kernel), by decide +kernel⟩
theorem neg1 (i : Int) (s : Sto) (Q : D → Sto → Prop) : Wo oNeg (.int i) s Q ↔ Q (.int (-i)) s := Wo_iff rfl
theorem bad2 {x0 : D} {x2 : Option D} : BadE (fArgs oLst (fCons (fArgs oTup (fCons (ret3 (.str "game")) (fCons (fArgs oTup (fCons (fArgs oTup (fCons (ret3 (.int 0)) (fCons (ret3 (.int 0)) (fCons (fArgs oTup fNil) fNil)))) fNil)) fNil))) (fCons (fArgs oTup (fCons (ret3 (.str "game")) (fCons (fArgs oTup (fCons (fArgs oTup (fCons (ret3 (.int 0)) (fCons (ret3 (.int 0)) (fCons (fArgs oTup (fCons (ret3 (.int 1)) fNil)) fNil)))) fNil)) fNil))) (fCons (fArgs oTup (fCons (ret3 (.str "game")) (fCons (fArgs oTup (fCons (fArgs oTup (fCons (ret3 (.int 0)) (fCons (ret3 (.int 0)) (fCons (fArgs oTup (fCons (ret3 (.int 0)) (fCons (ret3 (.int 0)) fNil))) fNil)))) fNil)) fNil))) (fCons (fArgs oTup (fCons (ret3 (.str "game")) (fCons (fArgs oTup (fCons (fArgs oTup (fCons (ret3 (.int 2)) (fCons (ret3 (.int 0)) (fCons (fArgs oTup (fCons (ret3 (.int 0)) fNil)) fNil)))) fNil)) fNil))) fNil))))) x0 x2 4 := by
  intro st
  simp only [Ok_fArgs, Ok_fCons, Ok_fU, Ok_varS, Ok_var0, Ok_fNil, Ok_ret]
  repeat (first | rw [Wo_tup (small_sz (by simp))] | rw [Wo_lst (small_sz (by simp))] | rw [neg1])
  refine ⟨_, _, rfl, app_new, by simp, Pre.app _ _, ⟨[], by simp, ?_⟩, rfl⟩
  decide +kernel
theorem bad3 {x0 : D} {x2 : Option D} : BadE (fArgs oLst (fCons (fArgs oTup (fCons (ret3 (.str "game")) (fCons (fArgs oTup (fCons (fArgs oTup (fCons (ret3 (.int 0)) (fCons (ret3 (.int 302)) (fCons (fArgs oTup (fCons (ret3 (.int 0)) fNil)) fNil)))) fNil)) fNil))) (fCons (fArgs oTup (fCons (ret3 (.str "game")) (fCons (fArgs oTup (fCons (fArgs oTup (fCons (ret3 (.int 0)) (fCons (fU oNeg (ret3 (.int 1))) (fCons (fArgs oTup (fCons (ret3 (.int 0)) fNil)) fNil)))) fNil)) fNil))) (fCons (fArgs oTup (fCons (ret3 (.str "game")) (fCons (fArgs oTup (fCons (fArgs oTup (fCons (ret3 (.bl true)) (fCons (ret3 (.int 0)) (fCons (fArgs oTup (fCons (ret3 (.int 0)) fNil)) fNil)))) fNil)) fNil))) (fCons (fArgs oTup (fCons (ret3 (.str "game")) (fCons (fArgs oTup (fCons (fArgs oTup (fCons (ret3 (.int 0)) (fCons (ret3 (.bl false)) (fCons (fArgs oTup (fCons (ret3 (.int 0)) fNil)) fNil)))) fNil)) fNil))) fNil))))) x0 x2 4 := by
  intro st
  simp only [Ok_fArgs, Ok_fCons, Ok_fU, Ok_varS, Ok_var0, Ok_fNil, Ok_ret]
  repeat (first | rw [Wo_tup (small_sz (by simp))] | rw [Wo_lst (small_sz (by simp))] | rw [neg1])
  refine ⟨_, _, rfl, app_new, by simp, Pre.app _ _, ⟨[], by simp, ?_⟩, rfl⟩
  decide +kernel
theorem bad4 {x0 : D} {x2 : Option D} : BadE (fArgs oLst (fCons (fArgs oTup (fCons (ret3 (.str "game")) (fCons (fArgs oTup (fCons (fArgs oTup (fCons (ret3 (.int 0)) (fCons (ret3 (.int 0)) (fCons (fArgs oLst (fCons (ret3 (.int 0)) fNil)) fNil)))) fNil)) fNil))) (fCons (fArgs oTup (fCons (ret3 (.str "game")) (fCons (fArgs oTup (fCons (fArgs oTup (fCons (ret3 (.int 0)) (fCons (ret3 (.int 0)) (fCons (fArgs oTup (fCons (ret3 (.bl true)) fNil)) fNil)))) (fCons (fVar 1) fNil))) fNil))) (fCons (fArgs oTup (fCons (ret3 (.str "game")) (fCons (fArgs oTup (fCons (fVar 1) fNil)) (fCons (fArgs oTup fNil) fNil)))) (fCons (fArgs oTup (fCons (ret3 (.str "game")) (fCons (fArgs oTup (fCons (fArgs oTup (fCons (ret3 (.int 0)) (fCons (ret3 (.int 0)) fNil))) fNil)) fNil))) fNil))))) x0 x2 4 := by
  intro st
  simp only [Ok_fArgs, Ok_fCons, Ok_fU, Ok_varS, Ok_var0, Ok_fNil, Ok_ret]
  repeat (first | rw [Wo_tup (small_sz (by simp))] | rw [Wo_lst (small_sz (by simp))] | rw [neg1])
  refine ⟨_, _, rfl, app_new, by simp, (Pre.app _ _).trans (Pre.app _ _), ⟨[st.length], ?_, ?_⟩, rfl⟩
  · intro n hn
    rw [List.mem_singleton.mp hn]
    exact ⟨Nat.le_refl _, _, app_get app_new⟩
  · intro x hx
    simp only [List.mem_cons, List.not_mem_nil, or_false] at hx
    rcases hx with rfl | rfl | rfl | rfl
    · exact ⟨by simp [gameB, tdB, partB, rowB, subB]; decide +kernel, by simp [isGame, isRow]⟩
    · exact ⟨gameB_mono (ls := []) (by simp) (by decide +kernel), by decide +kernel⟩
    · exact ⟨gameB_mono (ls := []) (by simp) (by decide +kernel), by decide +kernel⟩
    · exact ⟨gameB_mono (ls := []) (by simp) (by decide +kernel), by decide +kernel⟩
theorem bad_game_ok {st : Sto} {p w c T : Nat} (h : Drw st p w c T) (hT : T < 2 ^ 39) : Wd d_bad_game [.loc p] st fun r s => (TdGame s r ∧ isGame r = false) ∧ Drw s p w c (T + 1) ∧ Frm p w st s := by
  obtain ⟨hp, hw, hc⟩ := Drw.lt h
  refine Wd_of ?_
  show Ws _ [some (.loc p), none, none] _ _
  unfold f_bad_game
  rw [Ws_seq]
  refine Ws_set ?_
  simp only [Ok_fArgs, Ok_fCons, Ok_fNil, Ok_ret]
  repeat (first | rw [Wo_tup (small_sz (by simp))] | rw [Wo_lst (small_sz (by simp))])
  rw [thenS_nx]
  show Ws _ [some (.loc p), some rowZ, none] st _
  rw [Ws_seq]
  refine Ws_set ((bad1 st).mono fun d s1 hd => ?_)
  obtain ⟨L1, A1, rfl, e1, k1, p1, b1, n1⟩ := hd
  rw [thenS_nx]
  show Ws _ [some (.loc p), some rowZ, some (.loc L1)] s1 _
  rw [Ws_seq]
  refine Ws_set ?_
  rw [Ok_fB]
  simp only [Ok_varS, Ok_var0]
  refine (bad2 s1).mono fun d s2 hd => ?_
  obtain ⟨L2, A2, rfl, e2, k2, p2, b2, n2⟩ := hd
  rw [Wo_addL (p2.get e1) e2 (by omega), thenS_nx]
  show Ws _ [some (.loc p), some rowZ, some (.loc s2.length)] _ _
  have b12 := b1.app p2 b2 p1.len
  rw [Ws_seq]
  refine Ws_set ?_
  rw [Ok_fB]
  simp only [Ok_varS, Ok_var0]
  refine (bad3 _).mono fun d s3 hd => ?_
  obtain ⟨L3, A3, rfl, e3, k3, p3, b3, n3⟩ := hd
  rw [Wo_addL (p3.get app_new) e3 (by rw [List.length_append]; omega), thenS_nx]
  show Ws _ [some (.loc p), some rowZ, some (.loc s3.length)] _ _
  have b123 := b12.app ((Pre.app _ _).trans p3) b3 ((p1.trans p2).trans (Pre.app _ _)).len
  refine Ws_ret ?_
  rw [Ok_fCall]
  simp only [Ok_fCons, Ok_fB, Ok_varS, Ok_var0, Ok_fNil]
  refine (bad4 _).mono fun d s4 hd => ?_
  obtain ⟨L4, A4, rfl, e4, k4, p4, b4, n4⟩ := hd
  rw [Wo_addL (p4.get app_new) e4 (by rw [List.length_append, List.length_append]; omega)]
  have b14 := b123.app ((Pre.app _ _).trans p4) b4 (((p1.trans p2).trans ((Pre.app _ _).trans p3)).trans (Pre.app _ _)).len
  have pre4 : Pre st s4 := ((p1.trans p2).trans ((Pre.app _ _).trans p3)).trans ((Pre.app _ _).trans p4)
  have l4 := pre4.len
  have d4 := pre4.drw h
  refine ⟨rfl, (pick_ok (d4.app _) (by omega) (fun s f => seqA_loc (f.get app_new (by omega) (by omega))) (by simp; omega) (by simp; omega)).mono fun r s5 hr => ?_⟩
  obtain ⟨hr, d5, f5⟩ := hr
  obtain ⟨ls, q1, q2⟩ := b14
  refine ⟨⟨gameB_ok (ls := ls) (fun n hn => ?_) (q2 r hr).1, (q2 r hr).2⟩, d5, (pre4.frm.trans (Frm.app _)).trans f5⟩
  obtain ⟨q, ds, e⟩ := q1 n hn
  exact ⟨ds, f5.get (app_get e) (by omega) (by omega)⟩
end L_k09

set_option maxHeartbeats 8000000
/-! k09, plain law 13: the texts of what drawn tells. -/
namespace L_k09
open PySem PyProof.Rows L2 S3
def optP : Option Nat → PyData
  | none => .none
  | some v => .int (v : Nat)
theorem strOk_app {a b : Str} (h : PyData.strOk a = true) (k : PyData.strOk b = true) : PyData.strOk (a ++ b) = true := by
  unfold PyData.strOk at h k ⊢
  show (a.cps ++ b.cps).all _ = true
  rw [Array.all_append, h, k]
  rfl
theorem len_app {a b : Str} : (a ++ b).length = a.length + b.length := strLen_append a b
/-- short texts of good signs -/
def Sh (n : Nat) (x : Str) : Prop := PyData.strOk x = true ∧ x.length ≤ n
theorem Sh.app {a b : Str} {n m : Nat} (h : Sh n a) (k : Sh m b) : Sh (n + m) (a ++ b) := ⟨strOk_app h.1 k.1, by rw [len_app]; exact Nat.add_le_add h.2 k.2⟩
theorem Sh.le {a : Str} {n m : Nat} (h : Sh n a) (k : n ≤ m) : Sh m a := ⟨h.1, Nat.le_trans h.2 k⟩
theorem sh_opt {o : Option Nat} (h : ∀ v, o = some v → v < 12) : Sh 4 (optP o).shown := by
  cases o with
  | none => exact ⟨by decide +kernel, by decide +kernel⟩
  | some v =>
    have hv := h v rfl
    match v, hv with
    | 0, _ => exact ⟨by decide +kernel, by decide +kernel⟩
    | 1, _ => exact ⟨by decide +kernel, by decide +kernel⟩
    | 2, _ => exact ⟨by decide +kernel, by decide +kernel⟩
    | 3, _ => exact ⟨by decide +kernel, by decide +kernel⟩
    | 4, _ => exact ⟨by decide +kernel, by decide +kernel⟩
    | 5, _ => exact ⟨by decide +kernel, by decide +kernel⟩
    | 6, _ => exact ⟨by decide +kernel, by decide +kernel⟩
    | 7, _ => exact ⟨by decide +kernel, by decide +kernel⟩
    | 8, _ => exact ⟨by decide +kernel, by decide +kernel⟩
    | 9, _ => exact ⟨by decide +kernel, by decide +kernel⟩
    | 10, _ => exact ⟨by decide +kernel, by decide +kernel⟩
    | 11, _ => exact ⟨by decide +kernel, by decide +kernel⟩
theorem sh_join : ∀ {ts : List Str}, (∀ t ∈ ts, Sh 4 t) → Sh (6 * ts.length) (Str.join ", " ts)
  | [], _ => ⟨by decide +kernel, by decide +kernel⟩
  | [x], h => (h x (by simp)).le (by simp)
  | x :: y :: r, h => by
    have ih := sh_join (ts := y :: r) fun t ht => h t (List.mem_cons_of_mem _ ht)
    have hx := h x (by simp)
    have hs : Sh 2 (", " : Str) := ⟨by decide +kernel, by decide +kernel⟩
    exact ((hx.app hs).app ih).le (by simp; omega)
theorem shownAll_map (l : List PyData) : PyData.shownAll l = l.map PyData.shown := by
  induction l with
  | nil => rfl
  | cons a l ih =>
    show PyData.shown a :: PyData.shownAll l = _
    rw [ih]
    rfl
theorem sh_tuple {l : List (Option Nat)} (h : ∀ o ∈ l, ∀ v, o = some v → v < 12) : Sh (6 * l.length + 3) (PyData.tuple (l.map optP)).shown := by
  have e : (PyData.tuple (l.map optP)).shown = tupleText ((l.map optP).map PyData.shown) := by
    rw [← shownAll_map]
    simp only [PyData.shown]
  rw [e]
  have hj := sh_join (ts := (l.map optP).map PyData.shown) fun t ht => by
    obtain ⟨d, hd, rfl⟩ := List.mem_map.mp ht
    obtain ⟨o, ho, rfl⟩ := List.mem_map.mp hd
    exact sh_opt (h o ho)
  rw [List.length_map, List.length_map] at hj
  have h1 : Sh 1 ("(" : Str) := ⟨by decide +kernel, by decide +kernel⟩
  have h2 : Sh 2 (if ((l.map optP).map PyData.shown).length == 1 then ",)" else ")" : String) := by
    split <;> exact ⟨by decide +kernel, by decide +kernel⟩
  exact ((h1.app hj).app h2).le (by omega)
theorem mapO_opt {st : Sto} {n : Nat} : ∀ l : List (Option Nat), mapO (dat st (n + 1)) (l.map optD) = some (l.map optP)
  | [] => rfl
  | o :: l => by
    have ih := mapO_opt (st := st) (n := n) l
    show mapO (dat st (n + 1)) (optD o :: l.map optD) = _
    unfold mapO
    rw [ih]
    cases o <;> rfl
theorem lay_opt : ∀ l : List (Option Nat), PyData.canLayAll0 (l.map optP) = true ∧ PyData.depthAll (l.map optP) = 0 ∧ PyData.hasDictAll (l.map optP) = false
  | [] => ⟨rfl, rfl, by simp only [List.map_nil, PyData.hasDictAll]⟩
  | o :: l => by
    obtain ⟨h1, h2, h3⟩ := lay_opt l
    refine ⟨?_, ?_, ?_⟩
    · show (PyData.canLay0 (optP o) && PyData.canLayAll0 (l.map optP)) = true
      rw [h1]
      cases o <;> rfl
    · show max (PyData.depth (optP o)) (PyData.depthAll (l.map optP)) = 0
      rw [h2]
      cases o <;> rfl
    · show PyData.hasDictAll (optP o :: l.map optP) = false
      simp only [PyData.hasDictAll, h3]
      cases o <;> simp [optP, PyData.hasDict]
theorem show_opt : ∀ {l : List (Option Nat)}, (∀ o ∈ l, ∀ v, o = some v → v < 12) → PyData.showableAll (l.map optP) = true
  | [], _ => by simp only [List.map_nil, PyData.showableAll]
  | o :: l, h => by
    have ih := show_opt (l := l) fun o ho => h o (List.mem_cons_of_mem _ ho)
    have ho := h o (by simp)
    show PyData.showableAll (optP o :: l.map optP) = true
    simp only [PyData.showableAll, ih, Bool.and_true]
    cases o with
    | none => simp [optP, PyData.showable]
    | some v =>
      have := ho v rfl
      simp only [optP, PyData.showable, decide_eq_true_eq]
      have h2 : ((v : Int)).natAbs = v := by simp
      rw [h2]
      have : v.log2 ≤ v := Nat.log2_le_self v
      omega
theorem dat_tup {st : Sto} (l : List (Option Nat)) : dat64 st (.tup (l.map optD)) = some (.tuple (l.map optP)) := by
  have e : dat st 66 (.tup (l.map optD)) = some (.tuple (l.map optP)) := by
    show dat st (65 + 1) (.tup (l.map optD)) = _
    unfold dat
    rw [mapO_opt (n := 64) l]
  obtain ⟨h1, h2, _⟩ := lay_opt l
  have h3 : SeqAt.shaped (PyData.tuple (l.map optP)) = true := by
    have h4 : PyData.canLay0 (PyData.tuple (l.map optP)) = true := h1
    have h5 : PyData.depth (PyData.tuple (l.map optP)) = 1 := by
      show PyData.depthAll (l.map optP) + 1 = 1
      rw [h2]
    simp [SeqAt.shaped, h4, h5]
  unfold dat64
  rw [e]
  simp [h3]
theorem Wo_reprT {st : Sto} {l : List (Option Nat)} {Q : D → Sto → Prop} (h : ∀ o ∈ l, ∀ v, o = some v → v < 12) (hl : l.length ≤ 1000) : Wo oRepr [.tup (l.map optD)] st Q ↔ Q (.str (PyData.tuple (l.map optP)).shown) st := Wo_iff (by
  unfold oRepr
  simp only [dat_tup]
  obtain ⟨h1, h2, h3⟩ := lay_opt l
  have s1 : (PyData.tuple (l.map optP)).showable = true := by
    simp only [PyData.showable]
    exact show_opt h
  have s2 : (PyData.tuple (l.map optP)).hasDict = false := by
    simp only [PyData.hasDict]
    exact h3
  have s3 : (PyData.tuple (l.map optP)).depth ≤ 60 := by
    show PyData.depthAll (l.map optP) + 1 ≤ 60
    rw [h2]
    decide
  have s4 : (PyData.tuple (l.map optP)).shown.length ≤ sizeLine := by
    have := (sh_tuple h).2
    exact small_sz (by omega)
  rw [if_pos ⟨rfl, s1, s2, s3, s4⟩])
theorem fnd_eq {R : List Row} {f : Nat → Option Nat} : fnd R f = ((List.range R.length).map f).map optD := by
  unfold fnd
  rw [List.map_map]
  rfl
end L_k09

set_option maxHeartbeats 8000000
/-! k09, plain law 14: the law. -/
namespace L_k09
open PySem PyProof.Rows L2 S3
theorem pv_caught {n c : Nat} {dd : FD} {fr : F3 (List D)} {env : Env3} {st : Sto} {ds : List D} (ha : PvA fr env st ds) (hn : ds.length = n) (hd : ∀ s, Pre st s → We dd ds s c) : Pv (fCaught (fCall n dd fr)) env st (.exn c) := fun s p => by
  obtain ⟨x, s1, e1, rfl, p1⟩ := ha s p
  obtain ⟨s2, e2, p2⟩ := hd s1 (p.trans p1)
  have : fCall n dd fr env s = some (.er c, s2) := by
    unfold fCall bnd
    rw [e1]
    dsimp only
    rw [if_pos hn, e2]
  exact ⟨.exn c, s2, by unfold fCaught; rw [this], rfl, p1.trans p2⟩
theorem pv_isV {i j : Nat} {fa : F3 D} {env : Env3} {st : Sto} (h : Pv fa env st (.exn i)) : Pv (fArgs (oIsV tab) (fCons fa (fCons (ret3 (.cl j)) fNil))) env st (.bl (tab i j)) := pv_A (pv_cons h (pv_cons pv_ret pv_nil)) (pvo fun s _ => rfl)
theorem drawn_det {st : Sto} {R : List Row} {side : Int} {as : List Int} {f : Nat → Option Nat} (hg : Good R) (h0 : 0 ≤ side) (h1 : side < 2) (ha : Aims9 R.length as) (sol : Sol (n := R.length) (gl := glN R) (own := ownN R side) (aims := as.map Int.toNat) f) :
    Wd d_p_drawn [gameD R, .int side, .tup (as.map D.int)] st fun r s => r = .tup (fnd R f) ∧ Pre st s := by
  refine (drawn_ok hg h0 h1 ha).mono fun r s hr => ?_
  obtain ⟨⟨f', s', _, rfl⟩, p⟩ := hr
  refine ⟨?_, p⟩
  congr 1
  refine List.map_congr_left fun k hk => ?_
  rw [sol_unique s' sol (fun r hr => gl_lt hg hr) k (List.mem_range.mp hk)]
/-- the aims as the law draws them -/
theorem aims_ok {st : Sto} {p w c T n : Nat} {x0 : D} {e2 e4 e5 e6 e7 e8 e9 e10 : Option D} (h : Drw st p w c T) (hT : T < 2 ^ 39) (h1 : 1 ≤ n) (h2 : n ≤ 12) :
    Ok (fArgs oTuple (fCons (fArgs oSorted (fCons (fSl (fCall 2 d_shuffled (fCons (fVar 1) (fCons (fU oRgL (fVar 3)) fNil))) (ret3 none) (bnd (fCall 2 d_pick (fCons (fVar 1) (fCons (fArgs oLst (fCons (ret3 (.int 0)) (fCons (ret3 (.int 1)) (fCons (ret3 (.int 1)) (fCons (ret3 (.int 2)) (fCons (ret3 (.int 3)) (fCons (fVar 3) fNil))))))) fNil))) asI)) fNil)) fNil))
      [some x0, some (.loc p), e2, some (.int n), e4, e5, e6, e7, e8, e9, e10] st fun d s => (∃ as : List Int, d = .tup (as.map D.int) ∧ Aims9 n as) ∧ Drw s p w c (T + 13) ∧ Frm p w st s := by
  obtain ⟨hp, hw, hc⟩ := Drw.lt h
  simp only [Ok_fArgs, Ok_fCons, Ok_fSl, Ok_fCall, Ok_fU, Ok_varS, Ok_var0, Ok_fNil, Ok_ret, Ok_bnd, Ok_asI]
  rw [Wo_rgL (by omega), rgI]
  refine ⟨rfl, (shuffled_ok (h.app _) (by rw [rg_len]; omega) (seqA_loc app_new) (by rw [rg_len]; omega)).mono fun r s2 hr => ?_⟩
  obtain ⟨⟨m, ms, rfl, hm, e, hpm⟩, d2, f2⟩ := hr
  rw [rg_len] at d2
  simp only [List.length_append, List.length_cons, List.length_nil] at hm
  have f2' : Frm p w st s2 := (Frm.app _).trans f2
  have l2 := f2'.len
  rw [Wo_lst (small_sz (by simp))]
  refine ⟨rfl, (pick_ok (ds := [.int 0, .int 1, .int 1, .int 2, .int 3, .int n]) (d2.app _) (by omega) (fun s f => seqA_loc (f.get app_new (by omega) (by omega))) (by simp) (by simp)).mono fun r s3 hr => ?_⟩
  obtain ⟨hr, d3, f3⟩ := hr
  obtain ⟨k, rfl⟩ : ∃ k : Nat, r = .int (k : Nat) := by
    simp only [List.mem_cons, List.not_mem_nil, or_false] at hr
    rcases hr with rfl | rfl | rfl | rfl | rfl | rfl
    · exact ⟨0, rfl⟩
    · exact ⟨1, rfl⟩
    · exact ⟨1, rfl⟩
    · exact ⟨2, rfl⟩
    · exact ⟨3, rfl⟩
    · exact ⟨n, rfl⟩
  simp only [D.int.injEq, exists_eq_left']
  have e3 : s3[m]? = some (.lst (ms.map D.int)) := f3.get (app_get e) (by omega) (by omega)
  rw [Wo_slL e3, cut_take, ← List.map_take]
  have hso : ∀ (s : Sto) (L : Nat) (is : List Int) (Q : D → Sto → Prop), s[L]? = some (.lst (is.map D.int)) → (Wo oSorted [.loc L] s Q ↔ Q (.loc s.length) (s ++ [.lst ((isort is).map D.int)])) := fun s L is Q hL => Wo_iff (by
    unfold oSorted
    simp [seqL_loc hL, intsOf_map])
  rw [hso _ _ _ _ app_new, Wo_tupleL app_new]
  have sub : ∀ x ∈ isort (ms.take k), 0 ≤ x ∧ x < n := fun x hx => rg_mem.mp (hpm.mem_iff.mp (List.mem_of_mem_take ((isort_perm _).mem_iff.mp hx)))
  have nd : (isort (ms.take k)).Nodup := (isort_perm _).nodup_iff.mpr ((hpm.nodup_iff.mpr (rg_nodup n)).sublist (List.take_sublist _ _))
  refine ⟨⟨isort (ms.take k), rfl, sub, ?_⟩, ((d3.mono (by omega)).app _).app _, (((f2'.trans (Frm.app _)).trans f3).trans (Frm.app _)).trans (Frm.app _)⟩
  refine List.pairwise_iff_getElem.mpr fun i j hi hj hij => ?_
  have a := List.pairwise_iff_getElem.mp (isort_sorted (ms.take k)) i j hi hj hij
  have b := List.pairwise_iff_getElem.mp (List.nodup_iff_pairwise_ne.mp nd) i j hi hj hij
  omega
theorem td_frm {s s' : Sto} {x : D} {p w c T T' : Nat} (h : Td s x) (d : Drw s p w c T) (f : Frm p w s s') (d' : Drw s' p w c T') : Td s' x := by
  cases h with
  | non => exact .non
  | bl b => exact .bl b
  | int i => exact .int i
  | str x => exact .str x
  | tup ds => exact .tup ds
  | @lst n ds e =>
    by_cases h1 : n = w
    · subst h1
      obtain ⟨r, t, ws, cs, y⟩ := d'
      exact .lst y.hw
    · by_cases h2 : n = p
      · subst h2
        obtain ⟨r, t, ws, cs, y⟩ := d
        rw [y.hp] at e
        cases e
      · exact .lst (f.get e h2 h1)
theorem incr10 : incr [1, 0] = false := by decide
theorem main_ok {ns : List Int} (hn : ns.length ≤ 63) : Wd d_main [.lcon (ns.map D.int)] [] fun r _ => r = .bl true := by
  refine Wd_of ?_
  show Ws _ [some (.lcon (ns.map D.int)), none, none, none, none, none, none, none, none, none, none] _ _
  unfold f_main
  rw [Ws_seq]
  refine Ws_set ?_
  simp only [Ok_fCall, Ok_fCons, Ok_var0, Ok_fNil]
  refine ⟨rfl, (begun_ok hn).mono fun r s0 hr => ?_⟩
  obtain ⟨p, w, c, rfl, dr0, _, _, _, _⟩ := hr
  rw [thenS_nx]
  show Ws _ [some (.lcon (ns.map D.int)), some (.loc p), none, none, none, none, none, none, none, none, none] s0 _
  rw [Ws_seq]
  refine Ws_for (Ok_overR ?_)
  simp only [Ok_fCons, Ok_fB, Ok_fArgs, Ok_var0, Ok_fNil, Ok_ret]
  rw [Wo_len (ds := ns.map D.int) (by simp [seqA, seqT, seqL]), Wo_min2, Wo_add]
  obtain ⟨m, hm, m14⟩ : ∃ m : Nat, (4 + if (10 : Int) < ((ns.map D.int).length : Nat) then (10 : Int) else ((ns.map D.int).length : Nat)) = (m : Int) ∧ m ≤ 14 := by
    rw [List.length_map]
    by_cases z : (10 : Int) < (ns.length : Nat)
    · rw [if_pos z]
      exact ⟨14, rfl, Nat.le_refl _⟩
    · rw [if_neg z]
      exact ⟨4 + ns.length, by omega, by omega⟩
  rw [hm]
  refine ⟨m, rfl, by omega, m, fun k env s => (∃ e2 e3 e4 e5 e6 e7 e8 e9 e10, env = [some (.lcon (ns.map D.int)), some (.loc p), e2, e3, e4, e5, e6, e7, e8, e9, e10]) ∧ Drw s p w c (500 * k), lt_loop (by omega), ⟨⟨none, none, none, none, none, none, none, none, none, rfl⟩, dr0⟩, ?_, ?_⟩
  · rintro k env st hk ⟨⟨e2, e3, e4, e5, e6, e7, e8, e9, e10, rfl⟩, dr⟩
    refine ⟨.int (k : Nat), [some (.lcon (ns.map D.int)), some (.loc p), some (.int (k : Nat)), e3, e4, e5, e6, e7, e8, e9, e10], st, by rw [srcR_eq, rg_get, if_pos hk], rfl, ?_⟩
    rw [Ws_seq]
    refine Ws_asg ?_
    simp only [Ok_fArgs, Ok_fCons, Ok_fCall, Ok_varS, Ok_var0, Ok_fNil, Ok_ret]
    refine ⟨rfl, (game_ok dr (by omega)).mono fun r s1 hr => ?_⟩
    obtain ⟨⟨R, rfl, hg⟩, d1, f1⟩ := hr
    refine ⟨rfl, (take_ok d1 (by omega) (by decide) (by decide)).mono fun r s2 hr => ?_⟩
    obtain ⟨⟨side, rfl, h0, h1⟩, d2, f2⟩ := hr
    rw [Wo_tup (small_sz (by simp))]
    refine ⟨_, _, rfl, ?_⟩
    rw [thenS_nx]
    show Ws _ [some (.lcon (ns.map D.int)), some (.loc p), some (.int (k : Nat)), e3, e4, e5, e6, some (gameD R), e8, some (.int side), e10] s2 _
    have hR := hg.most
    have hR1 := hg.one
    rw [Ws_seq]
    refine ws_set (d := .int R.length) (by
      have key := pv_len (fa := fB oIx (fVar 7) (ret3 (.int 1))) (env := [some (.lcon (ns.map D.int)), some (.loc p), some (.int (k : Nat)), e3, e4, e5, e6, some (gameD R), e8, some (.int side), e10]) (st := s2) (pv_at 1 (pv_var (d := gameD R) rfl) (d := .tup (R.map rowD)) rfl)
      rw [List.length_map] at key
      exact key) fun s3 p3 => ?_
    rw [thenS_nx]
    show Ws _ [some (.lcon (ns.map D.int)), some (.loc p), some (.int (k : Nat)), some (.int R.length), e4, e5, e6, some (gameD R), e8, some (.int side), e10] s3 _
    rw [Ws_seq]
    refine Ws_set ((aims_ok (p3.drw d2) (by omega) hR1 hR).mono fun d s4 hd => ?_)
    obtain ⟨⟨as, rfl, ha⟩, d4, _⟩ := hd
    have hal := aims_len ha
    rw [thenS_nx]
    show Ws _ [some (.lcon (ns.map D.int)), some (.loc p), some (.int (k : Nat)), some (.int R.length), some (.tup (as.map D.int)), e5, e6, some (gameD R), e8, some (.int side), e10] s4 _
    rw [Ws_seq]
    refine Ws_set ?_
    simp only [Ok_fCall, Ok_fCons, Ok_varS, Ok_var0, Ok_fNil]
    refine ⟨rfl, (drawn_ok hg h0 h1 ha).mono fun r s5 hr => ?_⟩
    obtain ⟨⟨f, sol, hv, rfl⟩, p5⟩ := hr
    have d5 := p5.drw d4
    rw [thenS_nx]
    show Ws _ [some (.lcon (ns.map D.int)), some (.loc p), some (.int (k : Nat)), some (.int R.length), some (.tup (as.map D.int)), some (.tup (fnd R f)), e6, some (gameD R), e8, some (.int side), e10] s5 _
    have hv12 : ∀ o ∈ (List.range R.length).map f, ∀ v, o = some v → v < 12 := fun o ho v hov => by
      obtain ⟨q, _, rfl⟩ := List.mem_map.mp ho
      have := hv q v hov
      omega
    have rep : ∀ {fa : F3 D} {env : Env3} {s : Sto}, Pv fa env s (.tup (fnd R f)) → Pv (fArgs oRepr (fCons fa fNil)) env s (.str (PyData.tuple (((List.range R.length).map f).map optP)).shown) := fun {fa env s} h => pv_A (pv_cons h pv_nil) (pvo_iff fun s Q _ => by
      rw [fnd_eq]
      exact Wo_reprT hv12 (by simp; omega))
    have okT := (sh_tuple hv12).1
    refine ws_guard (B := !true || false) (pv_or (pv_not (pv_asB (pv_call (dd := d_is_drawn) (n := 4) (d := .bl true) (ds := [gameD R, .int side, .tup (as.map D.int), .tup (fnd R f)]) (pv_cons (pv_var rfl) (pv_cons (pv_var rfl) (pv_cons (pv_var rfl) (pv_cons (pv_var rfl) pv_nil)))) rfl fun s _ => is_drawn_ok hg ha sol hv))) fun _ => pv_asB (pv_B (x := .str (PyData.tuple (((List.range R.length).map f).map optP)).shown) (y := .str (PyData.tuple (((List.range R.length).map f).map optP)).shown) (rep ?_) (rep (pv_var rfl)) (pvo_iff fun s Q _ => by
        have := Wo_neStr (st := s) (Q := Q) okT okT
        rw [beq_self_eq_true] at this
        exact this))) (fun z => by cases z) fun _ s6 p6 => ?_
    · intro s q
      rw [Ok_fCallK]
      simp only [Ok_fCons, Ok_varS, Ok_var0, Ok_fNil]
      exact ⟨rfl, _, rfl, drawn_det hg h0 h1 ha sol⟩
    have d6 := p6.drw d5
    rw [Ws_seq]
    refine Ws_asg ?_
    have neg : ∀ (i : Int) (s : Sto) (Q : D → Sto → Prop), Wo oNeg (.int i) s Q ↔ Q (.int (-i)) s := fun i s Q => Wo_iff rfl
    simp only [Ok_fArgs, Ok_fCons, Ok_fU, Ok_fCall, Ok_varS, Ok_var0, Ok_fNil, Ok_ret]
    refine ⟨rfl, (bad_aims_ok d6 (by omega) hR1).mono fun bad s7 hr => ?_⟩
    obtain ⟨⟨tb, nb⟩, d7, f7⟩ := hr
    obtain ⟨hp7, hw7, hc7⟩ := Drw.lt d7
    repeat (first | rw [neg] | rw [Wo_tup (small_sz (by simp))] | rw [Wo_lst (small_sz (by simp))])
    refine ⟨rfl, (pick_ok (d7.app _) (by omega) (fun s f => seqA_loc (f.get app_new (by omega) (by omega))) (by simp) (by simp)).mono fun odd s8 hr => ?_⟩
    obtain ⟨ho, d8, f8⟩ := hr
    have hodd : (∀ s, Td s odd) ∧ isNum odd 2 = false := by
      simp only [List.mem_cons, List.not_mem_nil, or_false] at ho
      rcases ho with rfl | rfl | rfl | rfl | rfl | rfl
      · exact ⟨fun s => .int _, by decide⟩
      · exact ⟨fun s => .int _, by decide⟩
      · exact ⟨fun s => .bl _, by decide⟩
      · exact ⟨fun s => .non, by decide⟩
      · exact ⟨fun s => .str _, rfl⟩
      · exact ⟨fun s => .tup _, rfl⟩
    rw [Wo_tup (small_sz (by simp))]
    refine ⟨_, _, rfl, ?_⟩
    rw [thenS_nx]
    show Ws _ [some (.lcon (ns.map D.int)), some (.loc p), some (.int (k : Nat)), some (.int R.length), some (.tup (as.map D.int)), some (.tup (fnd R f)), some bad, some (gameD R), some odd, some (.int side), e10] s8 _
    rw [Ws_seq]
    refine Ws_set ?_
    simp only [Ok_fCall, Ok_fCons, Ok_varS, Ok_var0, Ok_fNil]
    refine ⟨rfl, (bad_game_ok d8 (by omega)).mono fun worst s9 hr => ?_⟩
    obtain ⟨⟨tw, nw⟩, d9, f9⟩ := hr
    rw [thenS_nx]
    show Ws _ [some (.lcon (ns.map D.int)), some (.loc p), some (.int (k : Nat)), some (.int R.length), some (.tup (as.map D.int)), some (.tup (fnd R f)), some bad, some (gameD R), some odd, some (.int side), some worst] s9 _
    have f79 : Frm p w s7 s9 := ((Frm.app _).trans f8).trans f9
    have tb9 : TdAims s9 bad := ⟨td_frm tb.1 d7 f79 d9, fun ds e => ⟨(tb.2 ds e).1, fun d hd => td_frm ((tb.2 ds e).2 d hd) d7 f79 d9⟩⟩
    refine ws_guard (B := !(tab 2 2)) (pv_not (pv_asB (pv_isV (pv_caught (ds := [worst, odd, bad]) (pv_cons (pv_var rfl) (pv_cons (pv_var rfl) (pv_cons (pv_var rfl) pv_nil))) rfl fun s q => drawn_er_game (tw.pre q) nw)))) (fun z => by cases z) fun _ sa pa => ?_
    refine ws_guard (B := !(tab 3 3)) (pv_not (pv_asB (pv_isV (pv_caught (ds := [gameD R, odd, bad]) (pv_cons (pv_var rfl) (pv_cons (pv_var rfl) (pv_cons (pv_var rfl) pv_nil))) rfl fun s q => drawn_er_side hg (hodd.1 s) hodd.2)))) (fun z => by cases z) fun _ sb pb => ?_
    have pab := pa.trans pb
    refine ws_guard (B := !(tab 1 1)) (pv_not (pv_asB (pv_isV (pv_caught (ds := [gameD R, .int side, bad]) (pv_cons (pv_var rfl) (pv_cons (pv_var rfl) (pv_cons (pv_var rfl) pv_nil))) rfl fun s q => drawn_er_aims hg h0 h1 (tb9.pre (pab.trans q)) nb)))) (fun z => by cases z) fun _ sc pc => ?_
    have pac := pab.trans pc
    have g1 := pv_asB (pv_B (o := oGt) (d := .bl (decide ((1 : Int) < (R.length : Nat)))) (env := [some (.lcon (ns.map D.int)), some (.loc p), some (.int (k : Nat)), some (.int R.length), some (.tup (as.map D.int)), some (.tup (fnd R f)), some bad, some (gameD R), some odd, some (.int side), some worst]) (st := sc) (pv_var (i := 3) (d := .int R.length) rfl) (pv_ret (d := .int 1)) (pvo_iff fun s Q _ => Wo_gt))
    refine ws_if (B := decide ((1 : Int) < (R.length : Nat)) && false) (pv_and g1 fun hB => pv_not (pv_asB (B := tab 1 1) (pv_isV (pv_caught (ds := [gameD R, .int side, .tup ([1, 0].map D.int)]) (pv_cons (pv_var rfl) (pv_cons (pv_var rfl) (pv_cons (pv_A (pv_cons (pv_ret (d := .int 1)) (pv_cons (pv_ret (d := .int 0)) pv_nil)) (pvo_iff fun s Q _ => Wo_tup (small_sz (by simp)))) pv_nil))) rfl fun s q => drawn_er_aims hg h0 h1 (td_aims (by simp)) (by
      show (([1, 0].map D.int).all (fun d => isNum d R.length) && incr (intsD ([1, 0].map D.int))) = false
      rw [intsD_map, incr10, Bool.and_false]))))) fun sd pd => ?_
    rw [Bool.and_false, if_neg (by simp), Ws_nop]
    refine ⟨⟨_, _, _, _, _, _, _, _, _, rfl⟩, (pd.drw (pac.drw d9)).mono (by omega)⟩
  · rintro env s ⟨⟨e2, e3, e4, e5, e6, e7, e8, e9, e10, rfl⟩, dr⟩
    refine ⟨by rw [srcR_eq, rg_get, if_neg (by omega)], ?_⟩
    rw [thenS_nx]
    exact Ws_ret (Ok_ret.mpr rfl)
end L_k09

set_option maxHeartbeats 4000000
namespace L_k09
open PySem PySem.Spec PyProof.Rows L2 S3
def top (i : Nat) : Stmt := PySem.Challenge.pw_allboughs_k09_whole_plays_drawn_to_rows.main.body.getD i (.Pass ⟨0, 0, 0, 0⟩)
abbrev s_p_back_of : Stmt := top 6
abbrev s_p_is_number : Stmt := top 8
abbrev s_p_is_row : Stmt := top 13
abbrev s_p_is_game : Stmt := top 14
abbrev s_p_need_game : Stmt := top 15
abbrev s_p_need_side : Stmt := top 16
abbrev s_p_are_aims : Stmt := top 18
abbrev s_p_drawn : Stmt := top 19
abbrev s_begun : Stmt := top 21
abbrev s_mixed : Stmt := top 22
abbrev s_take : Stmt := top 23
abbrev s_pick : Stmt := top 24
abbrev s_shuffled : Stmt := top 25
abbrev s_goals : Stmt := top 28
abbrev s_game : Stmt := top 29
abbrev s_bad_game : Stmt := top 30
abbrev s_is_number : Stmt := top 27
abbrev s_is_tuple : Stmt := top 31
abbrev s_is_drawn : Stmt := top 32
abbrev s_bad_aims : Stmt := top 33
abbrev s_main : Stmt := top 34
abbrev s_caught : Stmt := top 26
/-- what the top leaves -/
structure Fx (g : Gs) : Prop where
  b_abs : g.mg "abs" = none
  b_all : g.mg "all" = none
  b_bool : g.mg "bool" = none
  b_enumerate : g.mg "enumerate" = none
  b_int : g.mg "int" = none
  b_isinstance : g.mg "isinstance" = none
  b_len : g.mg "len" = none
  b_list : g.mg "list" = none
  b_max : g.mg "max" = none
  b_min : g.mg "min" = none
  b_range : g.mg "range" = none
  b_repr : g.mg "repr" = none
  b_set : g.mg "set" = none
  b_sorted : g.mg "sorted" = none
  b_str : g.mg "str" = none
  b_tuple : g.mg "tuple" = none
  b_zip : g.mg "zip" = none
  c_MOST_GOALS : ∃ t, g.mg "MOST_GOALS" = some (.int 4000 t)
  c_MOST_RANK : ∃ t, g.mg "MOST_RANK" = some (.int 301 t)
  c_MOST_ROWS : ∃ t, g.mg "MOST_ROWS" = some (.int 20000 t)
  k_BoughError : g.mg "BoughError" = some (.ref (g.cl 0))
  k_BadAims : g.mg "BadAims" = some (.ref (g.cl 1))
  k_BadGame : g.mg "BadGame" = some (.ref (g.cl 2))
  k_BadSide : g.mg "BadSide" = some (.ref (g.cl 3))
  x_BoughError : ExcOk g He.veBase "ValueError.__new__" "BoughError" 0
  x_BadAims : ExcOk g He.veBase "ValueError.__new__" "BadAims" 1
  x_BadGame : ExcOk g He.veBase "ValueError.__new__" "BadGame" 2
  x_BadSide : ExcOk g He.veBase "ValueError.__new__" "BadSide" 3
  tab : TabOk g tab
  catcher : CatchOk g "_law_caught" "_law_work" (g.cl 0)
abbrev N_p_back_of : List Str := ["rows", "row", "found", "at", "goal"]
abbrev ps_p_back_of : List Str := ["rows"]
theorem sc_p_back_of : FnScope N_p_back_of ps_p_back_of (defScope s_p_back_of) := C8.fnScope_by (by decide +kernel)
theorem b_p_back_of : BindsBy "back_of" s_p_back_of 1 ps_p_back_of := fun _ _ _ _ _ _ us hl => match us, hl with | [_], _ => rfl
abbrev N_p_is_number : List Str := ["thing", "end"]
abbrev ps_p_is_number : List Str := ["thing", "end"]
theorem sc_p_is_number : FnScope N_p_is_number ps_p_is_number (defScope s_p_is_number) := C8.fnScope_by (by decide +kernel)
theorem b_p_is_number : BindsBy "is_number" s_p_is_number 2 ps_p_is_number := fun _ _ _ _ _ _ us hl => match us, hl with | [_, _], _ => rfl
abbrev N_p_is_row : List Str := ["thing", "many", "goal"]
abbrev ps_p_is_row : List Str := ["thing", "many"]
theorem sc_p_is_row : FnScope N_p_is_row ps_p_is_row (defScope s_p_is_row) := C8.fnScope_by (by decide +kernel)
theorem b_p_is_row : BindsBy "is_row" s_p_is_row 2 ps_p_is_row := fun _ _ _ _ _ _ us hl => match us, hl with | [_, _], _ => rfl
abbrev N_p_is_game : List Str := ["thing", "row"]
abbrev ps_p_is_game : List Str := ["thing"]
theorem sc_p_is_game : FnScope N_p_is_game ps_p_is_game (defScope s_p_is_game) := C8.fnScope_by (by decide +kernel)
theorem b_p_is_game : BindsBy "is_game" s_p_is_game 1 ps_p_is_game := fun _ _ _ _ _ _ us hl => match us, hl with | [_], _ => rfl
abbrev N_p_need_game : List Str := ["game"]
abbrev ps_p_need_game : List Str := ["game"]
theorem sc_p_need_game : FnScope N_p_need_game ps_p_need_game (defScope s_p_need_game) := C8.fnScope_by (by decide +kernel)
theorem b_p_need_game : BindsBy "need_game" s_p_need_game 1 ps_p_need_game := fun _ _ _ _ _ _ us hl => match us, hl with | [_], _ => rfl
abbrev N_p_need_side : List Str := ["side"]
abbrev ps_p_need_side : List Str := ["side"]
theorem sc_p_need_side : FnScope N_p_need_side ps_p_need_side (defScope s_p_need_side) := C8.fnScope_by (by decide +kernel)
theorem b_p_need_side : BindsBy "need_side" s_p_need_side 1 ps_p_need_side := fun _ _ _ _ _ _ us hl => match us, hl with | [_], _ => rfl
abbrev N_p_are_aims : List Str := ["thing", "many", "one", "other", "row"]
abbrev ps_p_are_aims : List Str := ["thing", "many"]
theorem sc_p_are_aims : FnScope N_p_are_aims ps_p_are_aims (defScope s_p_are_aims) := C8.fnScope_by (by decide +kernel)
theorem b_p_are_aims : BindsBy "are_aims" s_p_are_aims 2 ps_p_are_aims := fun _ _ _ _ _ _ us hl => match us, hl with | [_, _], _ => rfl
abbrev N_p_drawn : List Str := ["game", "side", "aims", "rows", "row", "back", "steps", "left", "line", "done", "goal", "own", "rank", "goals"]
abbrev ps_p_drawn : List Str := ["game", "side", "aims"]
theorem sc_p_drawn : FnScope N_p_drawn ps_p_drawn (defScope s_p_drawn) := C8.fnScope_by (by decide +kernel)
theorem b_p_drawn : BindsBy "drawn" s_p_drawn 3 ps_p_drawn := fun _ _ _ _ _ _ us hl => match us, hl with | [_, _, _], _ => rfl
abbrev N_begun : List Str := ["_law_script", "_law_wide", "_law_grain"]
abbrev ps_begun : List Str := ["_law_script"]
theorem sc_begun : FnScope N_begun ps_begun (defScope s_begun) := C8.fnScope_by (by decide +kernel)
theorem b_begun : BindsBy "_law_begun" s_begun 1 ps_begun := fun _ _ _ _ _ _ us hl => match us, hl with | [_], _ => rfl
abbrev N_mixed : List Str := ["_law_draw", "_law_turn", "_law_found", "_law_prime", "_law_blend", "_law_grain"]
abbrev ps_mixed : List Str := ["_law_draw"]
theorem sc_mixed : FnScope N_mixed ps_mixed (defScope s_mixed) := C8.fnScope_by (by decide +kernel)
theorem b_mixed : BindsBy "_law_mixed" s_mixed 1 ps_mixed := fun _ _ _ _ _ _ us hl => match us, hl with | [_], _ => rfl
abbrev N_take : List Str := ["_law_draw", "_law_many", "_law_found"]
abbrev ps_take : List Str := ["_law_draw", "_law_many"]
theorem sc_take : FnScope N_take ps_take (defScope s_take) := C8.fnScope_by (by decide +kernel)
theorem b_take : BindsBy "_law_take" s_take 2 ps_take := fun _ _ _ _ _ _ us hl => match us, hl with | [_, _], _ => rfl
abbrev N_pick : List Str := ["_law_draw", "_law_some"]
abbrev ps_pick : List Str := ["_law_draw", "_law_some"]
theorem sc_pick : FnScope N_pick ps_pick (defScope s_pick) := C8.fnScope_by (by decide +kernel)
theorem b_pick : BindsBy "_law_pick" s_pick 2 ps_pick := fun _ _ _ _ _ _ us hl => match us, hl with | [_, _], _ => rfl
abbrev N_shuffled : List Str := ["_law_draw", "_law_some", "_law_left", "_law_found"]
abbrev ps_shuffled : List Str := ["_law_draw", "_law_some"]
theorem sc_shuffled : FnScope N_shuffled ps_shuffled (defScope s_shuffled) := C8.fnScope_by (by decide +kernel)
theorem b_shuffled : BindsBy "_law_shuffled" s_shuffled 2 ps_shuffled := fun _ _ _ _ _ _ us hl => match us, hl with | [_, _], _ => rfl
abbrev N_goals : List Str := ["_law_draw", "_law_many", "_law_most"]
abbrev ps_goals : List Str := ["_law_draw", "_law_many", "_law_most"]
theorem sc_goals : FnScope N_goals ps_goals (defScope s_goals) := C8.fnScope_by (by decide +kernel)
theorem b_goals : BindsBy "_law_goals" s_goals 3 ps_goals := fun _ _ _ _ _ _ us hl => match us, hl with | [_, _, _], _ => rfl
abbrev N_game : List Str := ["_law_draw", "_law_most", "_law_wide", "_law_many", "_law_style", "_law_high", "_law_ends", "_law_ranks", "_law_rows", "_law_k"]
abbrev ps_game : List Str := ["_law_draw", "_law_most", "_law_wide"]
theorem sc_game : FnScope N_game ps_game (defScope s_game) := C8.fnScope_by (by decide +kernel)
theorem b_game : BindsBy "_law_game" s_game 3 ps_game := fun _ _ _ _ _ _ us hl => match us, hl with | [_, _, _], _ => rfl
abbrev N_bad_game : List Str := ["_law_draw", "_law_row", "_law_some"]
abbrev ps_bad_game : List Str := ["_law_draw"]
theorem sc_bad_game : FnScope N_bad_game ps_bad_game (defScope s_bad_game) := C8.fnScope_by (by decide +kernel)
theorem b_bad_game : BindsBy "_law_bad_game" s_bad_game 1 ps_bad_game := fun _ _ _ _ _ _ us hl => match us, hl with | [_], _ => rfl
abbrev N_is_number : List Str := ["_law_thing", "_law_end"]
abbrev ps_is_number : List Str := ["_law_thing", "_law_end"]
theorem sc_is_number : FnScope N_is_number ps_is_number (defScope s_is_number) := C8.fnScope_by (by decide +kernel)
theorem b_is_number : BindsBy "_law_is_number" s_is_number 2 ps_is_number := fun _ _ _ _ _ _ us hl => match us, hl with | [_, _], _ => rfl
abbrev N_is_tuple : List Str := ["_law_thing", "_law_many"]
abbrev ps_is_tuple : List Str := ["_law_thing", "_law_many"]
theorem sc_is_tuple : FnScope N_is_tuple ps_is_tuple (defScope s_is_tuple) := C8.fnScope_by (by decide +kernel)
theorem b_is_tuple : BindsBy "_law_is_tuple" s_is_tuple 2 ps_is_tuple := fun _ _ _ _ _ _ us hl => match us, hl with | [_, _], _ => rfl
abbrev N_is_drawn : List Str := ["_law_game_here", "_law_side", "_law_aims", "_law_found", "_law_at", "_law_row", "_law_many", "_law_ahead", "_law_told", "_law_due", "_law_goal"]
abbrev ps_is_drawn : List Str := ["_law_game_here", "_law_side", "_law_aims", "_law_found"]
theorem sc_is_drawn : FnScope N_is_drawn ps_is_drawn (defScope s_is_drawn) := C8.fnScope_by (by decide +kernel)
theorem b_is_drawn : BindsBy "_law_is_drawn" s_is_drawn 4 ps_is_drawn := fun _ _ _ _ _ _ us hl => match us, hl with | [_, _, _, _], _ => rfl
abbrev N_bad_aims : List Str := ["_law_draw", "_law_many"]
abbrev ps_bad_aims : List Str := ["_law_draw", "_law_many"]
theorem sc_bad_aims : FnScope N_bad_aims ps_bad_aims (defScope s_bad_aims) := C8.fnScope_by (by decide +kernel)
theorem b_bad_aims : BindsBy "_law_bad_aims" s_bad_aims 2 ps_bad_aims := fun _ _ _ _ _ _ us hl => match us, hl with | [_, _], _ => rfl
abbrev N_main : List Str := ["_law_script", "_law_draw", "_law_turn", "_law_many", "_law_aims", "_law_found", "_law_bad", "_law_game_here", "_law_odd", "_law_side", "_law_worst"]
abbrev ps_main : List Str := ["_law_script"]
theorem sc_main : FnScope N_main ps_main (defScope s_main) := C8.fnScope_by (by decide +kernel)
theorem b_main : BindsBy "law" s_main 1 ps_main := fun _ _ _ _ _ _ us hl => match us, hl with | [_], _ => rfl
theorem sim_p_back_of {g : Gs} (F : Fx g)  (E : XK) : SimSs (defC g N_p_back_of s_p_back_of 0 E) (defBody s_p_back_of) f_p_back_of :=
  (simSs_cons (simS_setLc [("row", 1)] loopN 2 rfl (by kernel_rfl) (by kernel_rfl) (by kernel_rfl) (by kernel_rfl) (simI_tup (simE_var 0 rfl (by kernel_rfl))) (by kernel_rfl) (simG_name 1 rfl (by kernel_rfl)) simTs_nil (simE_lst simA_nil) (by decide))
    (simSs_cons (simS_for loopN (simI_enumT (by kernel_rfl) F.b_enumerate (simA_cons (simE_var 0 rfl (by kernel_rfl)) simA_nil)) (simG_tup 2 (simGs_cons (simG_name 3 rfl (by kernel_rfl)) (simGs_cons (simG_name 1 rfl (by kernel_rfl)) simGs_nil)))
    (simSs_one (simS_for loopN (simI_tup (simE_ix (simE_var 1 rfl (by kernel_rfl)) simE_int)) (simG_name 4 rfl (by kernel_rfl))
    (simSs_one (simS_expr (simE_append (simE_ix (simE_var 2 rfl (by kernel_rfl)) (simE_var 4 rfl (by kernel_rfl))) (simA_cons (simE_var 3 rfl (by kernel_rfl)) simA_nil)))))))
    (simSs_one (simS_ret (simE_var 2 rfl (by kernel_rfl))))))
theorem sim_p_is_number {g : Gs} (F : Fx g)  (E : XK) : SimSs (defC g N_p_is_number s_p_is_number 0 E) (defBody s_p_is_number) f_p_is_number :=
  (simSs_one (simS_ret (simE_and (simE_isi (by kernel_rfl) F.b_isinstance (simA_cons (simE_var 0 rfl (by kernel_rfl)) (simA_cons (simE_ty (by kernel_rfl) F.b_int (by kernel_rfl)) simA_nil))) (simE_and (simE_not (simE_isi (by kernel_rfl) F.b_isinstance (simA_cons (simE_var 0 rfl (by kernel_rfl)) (simA_cons (simE_ty (by kernel_rfl) F.b_bool (by kernel_rfl)) simA_nil)))) (simE_one (simE_leLt simE_int (simE_var 0 rfl (by kernel_rfl)) (simE_var 1 rfl (by kernel_rfl))))))))
theorem sim_p_is_row {g : Gs} (F : Fx g) (dp_is_number : DefOk g 1 "is_number" s_p_is_number ps_p_is_number d_p_is_number) (E : XK) : SimSs (defC g N_p_is_row s_p_is_row 1 E) (defBody s_p_is_row) f_p_is_row :=
  (simSs_cons (simS_if (SimW.t (simW_or (simT_not (simT_val (simE_isi (by kernel_rfl) F.b_isinstance (simA_cons (simE_var 0 rfl (by kernel_rfl)) (simA_cons (simE_ty (by kernel_rfl) F.b_tuple (by kernel_rfl)) simA_nil))))) (simW_or (simT_ne (simE_len (by kernel_rfl) F.b_len (simA_cons (simE_var 0 rfl (by kernel_rfl)) simA_nil)) simE_int) (simW_or1 (simT_not (simT_val (simE_call dp_is_number lev (by kernel_rfl) b_p_is_number (simA_cons (simE_ix (simE_var 0 rfl (by kernel_rfl)) simE_int) (simA_cons simE_int simA_nil)))))))))
    (simSs_one (simS_ret simE_bl))
    simSs_nil)
    (simSs_cons (simS_if (SimW.t (simW_or (simT_not (simT_val (simE_call dp_is_number lev (by kernel_rfl) b_p_is_number (simA_cons (simE_ix (simE_var 0 rfl (by kernel_rfl)) simE_int) (simA_cons (simE_add (simE_glob (v := .int 301) (by kernel_rfl) F.c_MOST_RANK.choose_spec ⟨_, rfl⟩ fun _ _ => .int _) simE_int) simA_nil))))) (simW_or1 (simT_not (simT_val (simE_isi (by kernel_rfl) F.b_isinstance (simA_cons (simE_ix (simE_var 0 rfl (by kernel_rfl)) simE_int) (simA_cons (simE_ty (by kernel_rfl) F.b_tuple (by kernel_rfl)) simA_nil))))))))
    (simSs_one (simS_ret simE_bl))
    simSs_nil)
    (simSs_cons (simS_if (SimW.t (simW_or (simT_not (simT_leLe simE_int (simE_len (by kernel_rfl) F.b_len (simA_cons (simE_ix (simE_var 0 rfl (by kernel_rfl)) simE_int) simA_nil)) (simE_glob (v := .int 4000) (by kernel_rfl) F.c_MOST_GOALS.choose_spec ⟨_, rfl⟩ fun _ _ => .int _))) (simW_or1 (simT_not (simT_val (simE_all (by kernel_rfl) F.b_all (simA_cons (simE_lc [("goal", 2)] loopN (simI_tup (simE_ix (simE_var 0 rfl (by kernel_rfl)) simE_int)) (by kernel_rfl) (simG_name 2 rfl (by kernel_rfl)) simTs_nil (simE_call dp_is_number lev (by kernel_rfl) b_p_is_number (simA_cons (simE_var 2 rfl (by kernel_rfl)) (simA_cons (simE_var 1 rfl (by kernel_rfl)) simA_nil))) (by decide)) simA_nil)))))))
    (simSs_one (simS_ret simE_bl))
    simSs_nil)
    (simSs_one (simS_ret (simE_eq (simE_lenSet (by kernel_rfl) F.b_len (by kernel_rfl) F.b_set (simE_ix (simE_var 0 rfl (by kernel_rfl)) simE_int)) (simE_len (by kernel_rfl) F.b_len (simA_cons (simE_ix (simE_var 0 rfl (by kernel_rfl)) simE_int) simA_nil))))))))
theorem sim_p_is_game {g : Gs} (F : Fx g) (dp_is_row : DefOk g 2 "is_row" s_p_is_row ps_p_is_row d_p_is_row) (E : XK) : SimSs (defC g N_p_is_game s_p_is_game 2 E) (defBody s_p_is_game) f_p_is_game :=
  (simSs_cons (simS_if (SimW.t (simW_or (simT_not (simT_val (simE_isi (by kernel_rfl) F.b_isinstance (simA_cons (simE_var 0 rfl (by kernel_rfl)) (simA_cons (simE_ty (by kernel_rfl) F.b_tuple (by kernel_rfl)) simA_nil))))) (simW_or (simT_ne (simE_len (by kernel_rfl) F.b_len (simA_cons (simE_var 0 rfl (by kernel_rfl)) simA_nil)) simE_int) (simW_or (simT_not (simT_val (simE_isi (by kernel_rfl) F.b_isinstance (simA_cons (simE_ix (simE_var 0 rfl (by kernel_rfl)) simE_int) (simA_cons (simE_ty (by kernel_rfl) F.b_str (by kernel_rfl)) simA_nil))))) (simW_or1 (simT_ne (simE_ix (simE_var 0 rfl (by kernel_rfl)) simE_int) simE_str))))))
    (simSs_one (simS_ret simE_bl))
    simSs_nil)
    (simSs_cons (simS_if (SimW.t (simW_or (simT_not (simT_val (simE_isi (by kernel_rfl) F.b_isinstance (simA_cons (simE_ix (simE_var 0 rfl (by kernel_rfl)) simE_int) (simA_cons (simE_ty (by kernel_rfl) F.b_tuple (by kernel_rfl)) simA_nil))))) (simW_or1 (simT_not (simT_leLe simE_int (simE_len (by kernel_rfl) F.b_len (simA_cons (simE_ix (simE_var 0 rfl (by kernel_rfl)) simE_int) simA_nil)) (simE_glob (v := .int 20000) (by kernel_rfl) F.c_MOST_ROWS.choose_spec ⟨_, rfl⟩ fun _ _ => .int _))))))
    (simSs_one (simS_ret simE_bl))
    simSs_nil)
    (simSs_one (simS_ret (simE_all (by kernel_rfl) F.b_all (simA_cons (simE_lc [("row", 1)] loopN (simI_tup (simE_ix (simE_var 0 rfl (by kernel_rfl)) simE_int)) (by kernel_rfl) (simG_name 1 rfl (by kernel_rfl)) simTs_nil (simE_call dp_is_row lev (by kernel_rfl) b_p_is_row (simA_cons (simE_var 1 rfl (by kernel_rfl)) (simA_cons (simE_len (by kernel_rfl) F.b_len (simA_cons (simE_ix (simE_var 0 rfl (by kernel_rfl)) simE_int) simA_nil)) simA_nil))) (by decide)) simA_nil))))))
theorem sim_p_need_game {g : Gs} (F : Fx g) (dp_is_game : DefOk g 3 "is_game" s_p_is_game ps_p_is_game d_p_is_game) (E : XK) : SimSs (defC g N_p_need_game s_p_need_game 3 E) (defBody s_p_need_game) f_p_need_game :=
  (simSs_one (simS_if (simT_not (simT_val (simE_call dp_is_game lev (by kernel_rfl) b_p_is_game (simA_cons (simE_var 0 rfl (by kernel_rfl)) simA_nil))))
    (simSs_one (simS_raise PySem.F.excBase_ValueError (F.x_BadGame) (by kernel_rfl)))
    simSs_nil))
theorem sim_p_need_side {g : Gs} (F : Fx g) (dp_is_number : DefOk g 1 "is_number" s_p_is_number ps_p_is_number d_p_is_number) (E : XK) : SimSs (defC g N_p_need_side s_p_need_side 1 E) (defBody s_p_need_side) f_p_need_side :=
  (simSs_one (simS_if (simT_not (simT_val (simE_call dp_is_number lev (by kernel_rfl) b_p_is_number (simA_cons (simE_var 0 rfl (by kernel_rfl)) (simA_cons simE_int simA_nil)))))
    (simSs_one (simS_raise PySem.F.excBase_ValueError (F.x_BadSide) (by kernel_rfl)))
    simSs_nil))
theorem sim_p_are_aims {g : Gs} (F : Fx g) (dp_is_number : DefOk g 1 "is_number" s_p_is_number ps_p_is_number d_p_is_number) (E : XK) : SimSs (defC g N_p_are_aims s_p_are_aims 1 E) (defBody s_p_are_aims) f_p_are_aims :=
  (simSs_cons (simS_if (SimW.t (simW_or (simT_not (simT_val (simE_isi (by kernel_rfl) F.b_isinstance (simA_cons (simE_var 0 rfl (by kernel_rfl)) (simA_cons (simE_ty (by kernel_rfl) F.b_tuple (by kernel_rfl)) simA_nil))))) (simW_or1 (simT_not (simT_val (simE_all (by kernel_rfl) F.b_all (simA_cons (simE_lc [("row", 4)] loopN (simI_tup (simE_var 0 rfl (by kernel_rfl))) (by kernel_rfl) (simG_name 4 rfl (by kernel_rfl)) simTs_nil (simE_call dp_is_number lev (by kernel_rfl) b_p_is_number (simA_cons (simE_var 4 rfl (by kernel_rfl)) (simA_cons (simE_var 1 rfl (by kernel_rfl)) simA_nil))) (by decide)) simA_nil)))))))
    (simSs_one (simS_ret simE_bl))
    simSs_nil)
    (simSs_one (simS_ret (simE_all (by kernel_rfl) F.b_all (simA_cons (simE_lc [("one", 2), ("other", 3)] loopN (simI_zipT (by kernel_rfl) F.b_zip (simA_cons (simE_var 0 rfl (by kernel_rfl)) (simA_cons (simE_slice (simE_var 0 rfl (by kernel_rfl)) (simO_some simE_int) simO_none) simA_nil))) (by kernel_rfl) (simG_tup 2 (simGs_cons (simG_name 2 rfl (by kernel_rfl)) (simGs_cons (simG_name 3 rfl (by kernel_rfl)) simGs_nil))) simTs_nil (simE_lt (simE_var 2 rfl (by kernel_rfl)) (simE_var 3 rfl (by kernel_rfl))) (by decide)) simA_nil)))))
theorem sim_p_drawn {g : Gs} (F : Fx g) (dp_back_of : DefOk g 1 "back_of" s_p_back_of ps_p_back_of d_p_back_of) (dp_need_game : DefOk g 4 "need_game" s_p_need_game ps_p_need_game d_p_need_game) (dp_need_side : DefOk g 2 "need_side" s_p_need_side ps_p_need_side d_p_need_side) (dp_are_aims : DefOk g 2 "are_aims" s_p_are_aims ps_p_are_aims d_p_are_aims) (E : XK) : SimSs (defC g N_p_drawn s_p_drawn 4 E) (defBody s_p_drawn) f_p_drawn :=
  (simSs_cons (simS_expr (simE_call dp_need_game lev (by kernel_rfl) b_p_need_game (simA_cons (simE_var 0 rfl (by kernel_rfl)) simA_nil)))
    (simSs_cons (simS_expr (simE_call dp_need_side lev (by kernel_rfl) b_p_need_side (simA_cons (simE_var 1 rfl (by kernel_rfl)) simA_nil)))
    (simSs_cons (simS_asg (simE_ix (simE_var 0 rfl (by kernel_rfl)) simE_int) (simG_name 3 rfl (by kernel_rfl)) (by intro env hsc; obtain ⟨⟩ := env; cases hsc; rfl) (by intro env hsc; obtain ⟨⟩ := env; cases hsc; rfl))
    (simSs_cons (simS_if (simT_not (simT_val (simE_call dp_are_aims lev (by kernel_rfl) b_p_are_aims (simA_cons (simE_var 2 rfl (by kernel_rfl)) (simA_cons (simE_len (by kernel_rfl) F.b_len (simA_cons (simE_var 3 rfl (by kernel_rfl)) simA_nil)) simA_nil)))))
    (simSs_one (simS_raise PySem.F.excBase_ValueError (F.x_BadAims) (by kernel_rfl)))
    simSs_nil)
    (simSs_cons (simS_asg (simE_tup (simA_cons (simE_call dp_back_of lev (by kernel_rfl) b_p_back_of (simA_cons (simE_var 3 rfl (by kernel_rfl)) simA_nil)) (simA_cons (simE_dc [("row", 4)] loopN (simI_tup (simE_var 2 rfl (by kernel_rfl))) (by kernel_rfl) (simG_name 4 rfl (by kernel_rfl)) simTs_nil (simE_var 4 rfl (by kernel_rfl)) simE_int (by decide)) simA_nil))) (simG_tup 2 (simGs_cons (simG_name 5 rfl (by kernel_rfl)) (simGs_cons (simG_name 6 rfl (by kernel_rfl)) simGs_nil))) (by intro env hsc; obtain ⟨⟩ := env; cases hsc; rfl) (by intro env hsc; obtain ⟨⟩ := env; cases hsc; rfl))
    (simSs_cons (simS_setLc [("own", 11), ("rank", 12), ("goals", 13)] loopN 7 rfl (by kernel_rfl) (by kernel_rfl) (by kernel_rfl) (by kernel_rfl) (simI_tup (simE_var 3 rfl (by kernel_rfl))) (by kernel_rfl) (simG_tup 3 (simGs_cons (simG_name 11 rfl (by kernel_rfl)) (simGs_cons (simG_name 12 rfl (by kernel_rfl)) (simGs_cons (simG_name 13 rfl (by kernel_rfl)) simGs_nil)))) simTs_nil (simE_len (by kernel_rfl) F.b_len (simA_cons (simE_var 13 rfl (by kernel_rfl)) simA_nil)) (by decide))
    (simSs_cons (simS_par2 (i := 8) (j := 9) rfl rfl (by decide) (by kernel_rfl) (by kernel_rfl) (simA_cons (simE_listOf (by kernel_rfl) F.b_list (simA_cons (simE_var 2 rfl (by kernel_rfl)) simA_nil)) (simA_cons simE_int simA_nil)) (by intro env hsc; obtain ⟨⟩ := env; cases hsc; rfl) (by intro env hsc; obtain ⟨⟩ := env; cases hsc; rfl))
    (simSs_cons (simS_while loopN (simT_lt (simE_var 9 rfl (by kernel_rfl)) (simE_len (by kernel_rfl) F.b_len (simA_cons (simE_var 8 rfl (by kernel_rfl)) simA_nil)))
    (simSs_cons (simS_asg (simE_ix (simE_var 8 rfl (by kernel_rfl)) (simE_var 9 rfl (by kernel_rfl))) (simG_name 10 rfl (by kernel_rfl)) (by intro env hsc; obtain ⟨⟩ := env; cases hsc; rfl) (by intro env hsc; obtain ⟨⟩ := env; cases hsc; rfl))
    (simSs_cons (simS_augAdd 9 rfl (by kernel_rfl) simE_int)
    (simSs_one (simS_for loopN (simI_list (simE_ix (simE_var 5 rfl (by kernel_rfl)) (simE_var 10 rfl (by kernel_rfl)))) (simG_name 4 rfl (by kernel_rfl))
    (simSs_cons (simS_augS (fun X o => ip_sub) (simE_var 7 rfl (by kernel_rfl)) (simE_var 4 rfl (by kernel_rfl)) simE_int)
    (simSs_one (simS_if (SimW.t (simW_and (simT_dnin (simE_var 4 rfl (by kernel_rfl)) (simE_var 6 rfl (by kernel_rfl))) (simW_and1 (SimW.t (simW_or (simT_eq (simE_ix (simE_ix (simE_var 3 rfl (by kernel_rfl)) (simE_var 4 rfl (by kernel_rfl))) simE_int) (simE_var 1 rfl (by kernel_rfl))) (simW_or1 (simT_eq (simE_ix (simE_var 7 rfl (by kernel_rfl)) (simE_var 4 rfl (by kernel_rfl))) simE_int)))))))
    (simSs_cons (simS_asg (simE_add (simE_dget (simE_var 6 rfl (by kernel_rfl)) (simE_var 10 rfl (by kernel_rfl))) simE_int) (simG_sub (simE_var 6 rfl (by kernel_rfl)) (simE_var 4 rfl (by kernel_rfl))) (by intro env hsc; obtain ⟨⟩ := env; cases hsc; rfl) (by intro env hsc; obtain ⟨⟩ := env; cases hsc; rfl))
    (simSs_one (simS_expr (simE_append (simE_var 8 rfl (by kernel_rfl)) (simA_cons (simE_var 4 rfl (by kernel_rfl)) simA_nil)))))
    simSs_nil))))))))
    (simSs_one (simS_ret (simE_tupleOf (by kernel_rfl) F.b_tuple (simA_cons (simE_lc [("row", 4)] loopN (simI_range (by kernel_rfl) F.b_range (simA_cons (simE_len (by kernel_rfl) F.b_len (simA_cons (simE_var 3 rfl (by kernel_rfl)) simA_nil)) simA_nil)) (by kernel_rfl) (simG_name 4 rfl (by kernel_rfl)) simTs_nil (simE_dget1 (simE_var 6 rfl (by kernel_rfl)) (simE_var 4 rfl (by kernel_rfl))) (by decide)) simA_nil))))))))))))
theorem sim_begun {g : Gs} (F : Fx g)  (E : XK) : SimSs (defC g N_begun s_begun 0 E) (defBody s_begun) f_begun :=
  (simSs_cons (simS_setLc [("_law_grain", 2)] loopN 1 rfl (by kernel_rfl) (by kernel_rfl) (by kernel_rfl) (by kernel_rfl) (simI_list (simE_var 0 rfl (by kernel_rfl))) (by kernel_rfl) (simG_name 2 rfl (by kernel_rfl)) (simTs_one (simT_ge (simE_abs (by kernel_rfl) F.b_abs (simA_cons (simE_var 2 rfl (by kernel_rfl)) simA_nil)) (simE_pow simE_int simE_int))) (simE_sub (simE_abs (by kernel_rfl) F.b_abs (simA_cons (simE_var 2 rfl (by kernel_rfl)) simA_nil)) (simE_pow simE_int simE_int)) (by decide))
    (simSs_one (simS_ret (simE_disp (simP_cons simE_str (simE_var 1 rfl (by kernel_rfl)) (simP_cons simE_str (simE_lc [("_law_grain", 2)] loopN (simI_list (simE_var 0 rfl (by kernel_rfl))) (by kernel_rfl) (simG_name 2 rfl (by kernel_rfl)) simTs_nil (simE_mod (simE_intOf (by kernel_rfl) F.b_int (simA_cons (simE_abs (by kernel_rfl) F.b_abs (simA_cons (simE_var 2 rfl (by kernel_rfl)) simA_nil)) simA_nil)) simE_int) (by decide)) (simP_cons simE_str simE_int (simP_cons simE_str simE_int simP_nil))))))))
theorem sim_mixed {g : Gs} (F : Fx g)  (E : XK) : SimSs (defC g N_mixed s_mixed 0 E) (defBody s_mixed) f_mixed :=
  (simSs_cons (simS_par2 (i := 1) (j := 2) rfl rfl (by decide) (by kernel_rfl) (by kernel_rfl) (simA_cons (simE_add (simE_dget (simE_var 0 rfl (by kernel_rfl)) simE_str) simE_int) (simA_cons simE_int simA_nil)) (by intro env hsc; obtain ⟨⟩ := env; cases hsc; rfl) (by intro env hsc; obtain ⟨⟩ := env; cases hsc; rfl))
    (simSs_cons (simS_asg (simE_var 1 rfl (by kernel_rfl)) (simG_sub (simE_var 0 rfl (by kernel_rfl)) simE_str) (by intro env hsc; obtain ⟨⟩ := env; cases hsc; rfl) (by intro env hsc; obtain ⟨⟩ := env; cases hsc; rfl))
    (simSs_cons (simS_for loopN (simI_list (simE_lst (simA_cons simE_int (simA_cons simE_int (simA_cons simE_int (simA_cons simE_int simA_nil)))))) (simG_name 3 rfl (by kernel_rfl))
    (simSs_cons (simS_asg (simE_add (simE_mul simE_int (simE_var 1 rfl (by kernel_rfl))) (simE_div (simE_var 3 rfl (by kernel_rfl)) simE_int)) (simG_name 4 rfl (by kernel_rfl)) (by intro env hsc; obtain ⟨⟩ := env; cases hsc; rfl) (by intro env hsc; obtain ⟨⟩ := env; cases hsc; rfl))
    (simSs_cons (simS_for loopN (simI_list (simE_dget (simE_var 0 rfl (by kernel_rfl)) simE_str)) (simG_name 5 rfl (by kernel_rfl))
    (simSs_one (simS_asg (simE_mod (simE_intOf (by kernel_rfl) F.b_int (simA_cons (simE_add (simE_add (simE_mul (simE_var 4 rfl (by kernel_rfl)) simE_int) (simE_var 5 rfl (by kernel_rfl))) (simE_var 1 rfl (by kernel_rfl))) simA_nil)) (simE_var 3 rfl (by kernel_rfl))) (simG_name 4 rfl (by kernel_rfl)) (by intro env hsc; obtain ⟨⟩ := env; cases hsc; rfl) (by intro env hsc; obtain ⟨⟩ := env; cases hsc; rfl))))
    (simSs_one (simS_asg (simE_add (simE_mul (simE_var 2 rfl (by kernel_rfl)) simE_int) (simE_mod (simE_intOf (by kernel_rfl) F.b_int (simA_cons (simE_pow (simE_var 4 rfl (by kernel_rfl)) simE_int) simA_nil)) (simE_var 3 rfl (by kernel_rfl)))) (simG_name 2 rfl (by kernel_rfl)) (by intro env hsc; obtain ⟨⟩ := env; cases hsc; rfl) (by intro env hsc; obtain ⟨⟩ := env; cases hsc; rfl))))))
    (simSs_one (simS_ret (simE_var 2 rfl (by kernel_rfl)))))))
theorem sim_take {g : Gs} (F : Fx g) (dmixed : DefOk g 1 "_law_mixed" s_mixed ps_mixed d_mixed) (E : XK) : SimSs (defC g N_take s_take 1 E) (defBody s_take) f_take :=
  (simSs_cons (simS_if (simT_eq (simE_dget (simE_var 0 rfl (by kernel_rfl)) simE_str) simE_int)
    (simSs_one (simS_asg (simE_if (simT_ne (simE_dget (simE_var 0 rfl (by kernel_rfl)) simE_str) (simE_lst simA_nil)) (simE_popAt (simE_dget (simE_var 0 rfl (by kernel_rfl)) simE_str) (simA_cons simE_int simA_nil)) (simE_call dmixed lev (by kernel_rfl) b_mixed (simA_cons (simE_var 0 rfl (by kernel_rfl)) simA_nil))) (simG_sub (simE_var 0 rfl (by kernel_rfl)) simE_str) (by intro env hsc; obtain ⟨⟩ := env; cases hsc; rfl) (by intro env hsc; obtain ⟨⟩ := env; cases hsc; rfl)))
    simSs_nil)
    (simSs_cons (simS_asg (simE_mod (simE_intOf (by kernel_rfl) F.b_int (simA_cons (simE_dget (simE_var 0 rfl (by kernel_rfl)) simE_str) simA_nil)) (simE_var 1 rfl (by kernel_rfl))) (simG_name 2 rfl (by kernel_rfl)) (by intro env hsc; obtain ⟨⟩ := env; cases hsc; rfl) (by intro env hsc; obtain ⟨⟩ := env; cases hsc; rfl))
    (simSs_cons (simS_asg (simE_div (simE_dget (simE_var 0 rfl (by kernel_rfl)) simE_str) (simE_var 1 rfl (by kernel_rfl))) (simG_sub (simE_var 0 rfl (by kernel_rfl)) simE_str) (by intro env hsc; obtain ⟨⟩ := env; cases hsc; rfl) (by intro env hsc; obtain ⟨⟩ := env; cases hsc; rfl))
    (simSs_one (simS_ret (simE_var 2 rfl (by kernel_rfl)))))))
theorem sim_pick {g : Gs} (F : Fx g) (dtake : DefOk g 2 "_law_take" s_take ps_take d_take) (E : XK) : SimSs (defC g N_pick s_pick 2 E) (defBody s_pick) f_pick :=
  (simSs_one (simS_ret (simE_ix (simE_var 1 rfl (by kernel_rfl)) (simE_call dtake lev (by kernel_rfl) b_take (simA_cons (simE_var 0 rfl (by kernel_rfl)) (simA_cons (simE_len (by kernel_rfl) F.b_len (simA_cons (simE_var 1 rfl (by kernel_rfl)) simA_nil)) simA_nil))))))
theorem sim_shuffled {g : Gs} (F : Fx g) (dtake : DefOk g 2 "_law_take" s_take ps_take d_take) (E : XK) : SimSs (defC g N_shuffled s_shuffled 2 E) (defBody s_shuffled) f_shuffled :=
  (simSs_cons (simS_par2 (i := 2) (j := 3) rfl rfl (by decide) (by kernel_rfl) (by kernel_rfl) (simA_cons (simE_listOf (by kernel_rfl) F.b_list (simA_cons (simE_var 1 rfl (by kernel_rfl)) simA_nil)) (simA_cons (simE_lst simA_nil) simA_nil)) (by intro env hsc; obtain ⟨⟩ := env; cases hsc; rfl) (by intro env hsc; obtain ⟨⟩ := env; cases hsc; rfl))
    (simSs_cons (simS_while loopN (simT_ne (simE_var 2 rfl (by kernel_rfl)) (simE_lst simA_nil))
    (simSs_one (simS_expr (simE_append (simE_var 3 rfl (by kernel_rfl)) (simA_cons (simE_popAt (simE_var 2 rfl (by kernel_rfl)) (simA_cons (simE_call dtake lev (by kernel_rfl) b_take (simA_cons (simE_var 0 rfl (by kernel_rfl)) (simA_cons (simE_len (by kernel_rfl) F.b_len (simA_cons (simE_var 2 rfl (by kernel_rfl)) simA_nil)) simA_nil))) simA_nil)) simA_nil)))))
    (simSs_one (simS_ret (simE_var 3 rfl (by kernel_rfl))))))
theorem sim_goals {g : Gs} (F : Fx g) (dtake : DefOk g 2 "_law_take" s_take ps_take d_take) (dshuffled : DefOk g 3 "_law_shuffled" s_shuffled ps_shuffled d_shuffled) (E : XK) : SimSs (defC g N_goals s_goals 3 E) (defBody s_goals) f_goals :=
  (simSs_one (simS_ret (simE_tupleOf (by kernel_rfl) F.b_tuple (simA_cons (simE_slice (simE_call dshuffled lev (by kernel_rfl) b_shuffled (simA_cons (simE_var 0 rfl (by kernel_rfl)) (simA_cons (simE_listRg (by kernel_rfl) F.b_list (by kernel_rfl) F.b_range (simE_var 1 rfl (by kernel_rfl))) simA_nil))) simO_none (simO_some (simE_add simE_int (simE_call dtake lev (by kernel_rfl) b_take (simA_cons (simE_var 0 rfl (by kernel_rfl)) (simA_cons (simE_var 2 rfl (by kernel_rfl)) simA_nil)))))) simA_nil))))
theorem sim_game {g : Gs} (F : Fx g) (dtake : DefOk g 2 "_law_take" s_take ps_take d_take) (dpick : DefOk g 3 "_law_pick" s_pick ps_pick d_pick) (dshuffled : DefOk g 3 "_law_shuffled" s_shuffled ps_shuffled d_shuffled) (dgoals : DefOk g 4 "_law_goals" s_goals ps_goals d_goals) (E : XK) : SimSs (defC g N_game s_game 4 E) (defBody s_game) f_game :=
  (simSs_cons (simS_asg (simE_tup (simA_cons (simE_add simE_int (simE_call dtake lev (by kernel_rfl) b_take (simA_cons (simE_var 0 rfl (by kernel_rfl)) (simA_cons (simE_var 1 rfl (by kernel_rfl)) simA_nil)))) (simA_cons (simE_call dtake lev (by kernel_rfl) b_take (simA_cons (simE_var 0 rfl (by kernel_rfl)) (simA_cons simE_int simA_nil))) (simA_cons (simE_call dpick lev (by kernel_rfl) b_pick (simA_cons (simE_var 0 rfl (by kernel_rfl)) (simA_cons (simE_lst (simA_cons simE_int (simA_cons simE_int (simA_cons simE_int (simA_cons simE_int (simA_cons simE_int (simA_cons simE_int simA_nil))))))) simA_nil))) simA_nil)))) (simG_tup 3 (simGs_cons (simG_name 3 rfl (by kernel_rfl)) (simGs_cons (simG_name 4 rfl (by kernel_rfl)) (simGs_cons (simG_name 5 rfl (by kernel_rfl)) simGs_nil)))) (by intro env hsc; obtain ⟨⟩ := env; cases hsc; rfl) (by intro env hsc; obtain ⟨⟩ := env; cases hsc; rfl))
    (simSs_cons (simS_asg (simE_lst (simA_cons simE_int (simA_cons simE_int (simA_cons simE_int (simA_cons simE_int (simA_cons simE_int (simA_cons simE_int simA_nil))))))) (simG_name 6 rfl (by kernel_rfl)) (by intro env hsc; obtain ⟨⟩ := env; cases hsc; rfl) (by intro env hsc; obtain ⟨⟩ := env; cases hsc; rfl))
    (simSs_cons (simS_asg (simE_if (simT_eq (simE_var 4 rfl (by kernel_rfl)) simE_int) (simE_call dshuffled lev (by kernel_rfl) b_shuffled (simA_cons (simE_var 0 rfl (by kernel_rfl)) (simA_cons (simE_listRg (by kernel_rfl) F.b_list (by kernel_rfl) F.b_range (simE_var 3 rfl (by kernel_rfl))) simA_nil))) (simE_lc [("_law_k", 9)] loopN (simI_range (by kernel_rfl) F.b_range (simA_cons (simE_var 3 rfl (by kernel_rfl)) simA_nil)) (by kernel_rfl) (simG_name 9 rfl (by kernel_rfl)) simTs_nil (simE_call dtake lev (by kernel_rfl) b_take (simA_cons (simE_var 0 rfl (by kernel_rfl)) (simA_cons (simE_ix (simE_var 6 rfl (by kernel_rfl)) (simE_var 4 rfl (by kernel_rfl))) simA_nil))) (by decide))) (simG_name 7 rfl (by kernel_rfl)) (by intro env hsc; obtain ⟨⟩ := env; cases hsc; rfl) (by intro env hsc; obtain ⟨⟩ := env; cases hsc; rfl))
    (simSs_cons (simS_setLc [("_law_k", 9)] loopN 8 rfl (by kernel_rfl) (by kernel_rfl) (by kernel_rfl) (by kernel_rfl) (simI_range (by kernel_rfl) F.b_range (simA_cons (simE_var 3 rfl (by kernel_rfl)) simA_nil)) (by kernel_rfl) (simG_name 9 rfl (by kernel_rfl)) simTs_nil (simE_tup (simA_cons (simE_call dtake lev (by kernel_rfl) b_take (simA_cons (simE_var 0 rfl (by kernel_rfl)) (simA_cons simE_int simA_nil))) (simA_cons (simE_min (by kernel_rfl) F.b_min (simA_cons simE_int (simA_cons (simE_add (simE_var 5 rfl (by kernel_rfl)) (simE_ix (simE_var 7 rfl (by kernel_rfl)) (simE_var 9 rfl (by kernel_rfl)))) simA_nil))) (simA_cons (simE_call dgoals lev (by kernel_rfl) b_goals (simA_cons (simE_var 0 rfl (by kernel_rfl)) (simA_cons (simE_var 3 rfl (by kernel_rfl)) (simA_cons (simE_var 2 rfl (by kernel_rfl)) simA_nil)))) simA_nil)))) (by decide))
    (simSs_one (simS_ret (simE_tup (simA_cons simE_str (simA_cons (simE_tupleOf (by kernel_rfl) F.b_tuple (simA_cons (simE_var 8 rfl (by kernel_rfl)) simA_nil)) simA_nil)))))))))
theorem sim_bad_game {g : Gs} (F : Fx g) (dpick : DefOk g 3 "_law_pick" s_pick ps_pick d_pick) (E : XK) : SimSs (defC g N_bad_game s_bad_game 3 E) (defBody s_bad_game) f_bad_game :=
  (simSs_cons (simS_asg (simE_tup (simA_cons simE_int (simA_cons simE_int (simA_cons (simE_tup (simA_cons simE_int simA_nil)) simA_nil)))) (simG_name 1 rfl (by kernel_rfl)) (by intro env hsc; obtain ⟨⟩ := env; cases hsc; rfl) (by intro env hsc; obtain ⟨⟩ := env; cases hsc; rfl))
    (simSs_cons (simS_asg (simE_lst (simA_cons simE_non (simA_cons simE_int (simA_cons simE_str (simA_cons (simE_tup simA_nil) (simA_cons (simE_tup (simA_cons simE_str simA_nil)) (simA_cons (simE_tup (simA_cons simE_str (simA_cons (simE_tup simA_nil) simA_nil))) (simA_cons (simE_tup (simA_cons simE_str (simA_cons (simE_tup (simA_cons (simE_var 1 rfl (by kernel_rfl)) simA_nil)) simA_nil))) (simA_cons (simE_tup (simA_cons simE_str (simA_cons (simE_lst (simA_cons (simE_var 1 rfl (by kernel_rfl)) simA_nil)) simA_nil))) (simA_cons (simE_lst (simA_cons simE_str (simA_cons (simE_tup (simA_cons (simE_var 1 rfl (by kernel_rfl)) simA_nil)) simA_nil))) (simA_cons (simE_tup (simA_cons simE_str (simA_cons (simE_tup (simA_cons (simE_var 1 rfl (by kernel_rfl)) (simA_cons simE_non simA_nil))) simA_nil))) simA_nil))))))))))) (simG_name 2 rfl (by kernel_rfl)) (by intro env hsc; obtain ⟨⟩ := env; cases hsc; rfl) (by intro env hsc; obtain ⟨⟩ := env; cases hsc; rfl))
    (simSs_cons (simS_asg (simE_add (simE_var 2 rfl (by kernel_rfl)) (simE_lst (simA_cons (simE_tup (simA_cons simE_str (simA_cons (simE_tup (simA_cons (simE_tup (simA_cons simE_int (simA_cons simE_int (simA_cons (simE_tup simA_nil) simA_nil)))) simA_nil)) simA_nil))) (simA_cons (simE_tup (simA_cons simE_str (simA_cons (simE_tup (simA_cons (simE_tup (simA_cons simE_int (simA_cons simE_int (simA_cons (simE_tup (simA_cons simE_int simA_nil)) simA_nil)))) simA_nil)) simA_nil))) (simA_cons (simE_tup (simA_cons simE_str (simA_cons (simE_tup (simA_cons (simE_tup (simA_cons simE_int (simA_cons simE_int (simA_cons (simE_tup (simA_cons simE_int (simA_cons simE_int simA_nil))) simA_nil)))) simA_nil)) simA_nil))) (simA_cons (simE_tup (simA_cons simE_str (simA_cons (simE_tup (simA_cons (simE_tup (simA_cons simE_int (simA_cons simE_int (simA_cons (simE_tup (simA_cons simE_int simA_nil)) simA_nil)))) simA_nil)) simA_nil))) simA_nil)))))) (simG_name 2 rfl (by kernel_rfl)) (by intro env hsc; obtain ⟨⟩ := env; cases hsc; rfl) (by intro env hsc; obtain ⟨⟩ := env; cases hsc; rfl))
    (simSs_cons (simS_asg (simE_add (simE_var 2 rfl (by kernel_rfl)) (simE_lst (simA_cons (simE_tup (simA_cons simE_str (simA_cons (simE_tup (simA_cons (simE_tup (simA_cons simE_int (simA_cons simE_int (simA_cons (simE_tup (simA_cons simE_int simA_nil)) simA_nil)))) simA_nil)) simA_nil))) (simA_cons (simE_tup (simA_cons simE_str (simA_cons (simE_tup (simA_cons (simE_tup (simA_cons simE_int (simA_cons (simE_neg simE_int) (simA_cons (simE_tup (simA_cons simE_int simA_nil)) simA_nil)))) simA_nil)) simA_nil))) (simA_cons (simE_tup (simA_cons simE_str (simA_cons (simE_tup (simA_cons (simE_tup (simA_cons simE_bl (simA_cons simE_int (simA_cons (simE_tup (simA_cons simE_int simA_nil)) simA_nil)))) simA_nil)) simA_nil))) (simA_cons (simE_tup (simA_cons simE_str (simA_cons (simE_tup (simA_cons (simE_tup (simA_cons simE_int (simA_cons simE_bl (simA_cons (simE_tup (simA_cons simE_int simA_nil)) simA_nil)))) simA_nil)) simA_nil))) simA_nil)))))) (simG_name 2 rfl (by kernel_rfl)) (by intro env hsc; obtain ⟨⟩ := env; cases hsc; rfl) (by intro env hsc; obtain ⟨⟩ := env; cases hsc; rfl))
    (simSs_one (simS_ret (simE_call dpick lev (by kernel_rfl) b_pick (simA_cons (simE_var 0 rfl (by kernel_rfl)) (simA_cons (simE_add (simE_var 2 rfl (by kernel_rfl)) (simE_lst (simA_cons (simE_tup (simA_cons simE_str (simA_cons (simE_tup (simA_cons (simE_tup (simA_cons simE_int (simA_cons simE_int (simA_cons (simE_lst (simA_cons simE_int simA_nil)) simA_nil)))) simA_nil)) simA_nil))) (simA_cons (simE_tup (simA_cons simE_str (simA_cons (simE_tup (simA_cons (simE_tup (simA_cons simE_int (simA_cons simE_int (simA_cons (simE_tup (simA_cons simE_bl simA_nil)) simA_nil)))) (simA_cons (simE_var 1 rfl (by kernel_rfl)) simA_nil))) simA_nil))) (simA_cons (simE_tup (simA_cons simE_str (simA_cons (simE_tup (simA_cons (simE_var 1 rfl (by kernel_rfl)) simA_nil)) (simA_cons (simE_tup simA_nil) simA_nil)))) (simA_cons (simE_tup (simA_cons simE_str (simA_cons (simE_tup (simA_cons (simE_tup (simA_cons simE_int (simA_cons simE_int simA_nil))) simA_nil)) simA_nil))) simA_nil)))))) simA_nil)))))))))
theorem sim_is_number {g : Gs} (F : Fx g)  (E : XK) : SimSs (defC g N_is_number s_is_number 0 E) (defBody s_is_number) f_is_number :=
  (simSs_one (simS_ret (simE_and (simE_isi (by kernel_rfl) F.b_isinstance (simA_cons (simE_var 0 rfl (by kernel_rfl)) (simA_cons (simE_ty (by kernel_rfl) F.b_int (by kernel_rfl)) simA_nil))) (simE_and (simE_not (simE_isi (by kernel_rfl) F.b_isinstance (simA_cons (simE_var 0 rfl (by kernel_rfl)) (simA_cons (simE_ty (by kernel_rfl) F.b_bool (by kernel_rfl)) simA_nil)))) (simE_one (simE_leLt simE_int (simE_var 0 rfl (by kernel_rfl)) (simE_var 1 rfl (by kernel_rfl))))))))
theorem sim_is_tuple {g : Gs} (F : Fx g)  (E : XK) : SimSs (defC g N_is_tuple s_is_tuple 0 E) (defBody s_is_tuple) f_is_tuple :=
  (simSs_one (simS_ret (simE_and (simE_isi (by kernel_rfl) F.b_isinstance (simA_cons (simE_var 0 rfl (by kernel_rfl)) (simA_cons (simE_ty (by kernel_rfl) F.b_tuple (by kernel_rfl)) simA_nil))) (simE_one (simE_eq (simE_len (by kernel_rfl) F.b_len (simA_cons (simE_var 0 rfl (by kernel_rfl)) simA_nil)) (simE_var 1 rfl (by kernel_rfl)))))))
theorem sim_is_drawn {g : Gs} (F : Fx g) (dis_number : DefOk g 1 "_law_is_number" s_is_number ps_is_number d_is_number) (dis_tuple : DefOk g 1 "_law_is_tuple" s_is_tuple ps_is_tuple d_is_tuple) (E : XK) : SimSs (defC g N_is_drawn s_is_drawn 1 E) (defBody s_is_drawn) f_is_drawn :=
  (simSs_cons (simS_if (simT_not (simT_val (simE_call dis_tuple lev (by kernel_rfl) b_is_tuple (simA_cons (simE_var 3 rfl (by kernel_rfl)) (simA_cons (simE_len (by kernel_rfl) F.b_len (simA_cons (simE_ix (simE_var 0 rfl (by kernel_rfl)) simE_int) simA_nil)) simA_nil)))))
    (simSs_one (simS_ret simE_bl))
    simSs_nil)
    (simSs_cons (simS_for loopN (simI_enumT (by kernel_rfl) F.b_enumerate (simA_cons (simE_ix (simE_var 0 rfl (by kernel_rfl)) simE_int) simA_nil)) (simG_tup 2 (simGs_cons (simG_name 4 rfl (by kernel_rfl)) (simGs_cons (simG_name 5 rfl (by kernel_rfl)) simGs_nil)))
    (simSs_cons (simS_asg (simE_ix (simE_var 3 rfl (by kernel_rfl)) (simE_var 4 rfl (by kernel_rfl))) (simG_name 6 rfl (by kernel_rfl)) (by intro env hsc; obtain ⟨⟩ := env; cases hsc; rfl) (by intro env hsc; obtain ⟨⟩ := env; cases hsc; rfl))
    (simSs_one (simS_if (SimW.t (simW_and (simT_notN (simE_var 6 rfl (by kernel_rfl))) (simW_and1 (simT_not (simT_val (simE_call dis_number lev (by kernel_rfl) b_is_number (simA_cons (simE_var 6 rfl (by kernel_rfl)) (simA_cons (simE_len (by kernel_rfl) F.b_len (simA_cons (simE_ix (simE_var 0 rfl (by kernel_rfl)) simE_int) simA_nil)) simA_nil))))))))
    (simSs_one (simS_ret simE_bl))
    simSs_nil))))
    (simSs_cons (simS_for loopN (simI_enumT (by kernel_rfl) F.b_enumerate (simA_cons (simE_ix (simE_var 0 rfl (by kernel_rfl)) simE_int) simA_nil)) (simG_tup 2 (simGs_cons (simG_name 4 rfl (by kernel_rfl)) (simGs_cons (simG_name 5 rfl (by kernel_rfl)) simGs_nil)))
    (simSs_cons (simS_setLc [("_law_goal", 10)] loopN 7 rfl (by kernel_rfl) (by kernel_rfl) (by kernel_rfl) (by kernel_rfl) (simI_tup (simE_ix (simE_var 5 rfl (by kernel_rfl)) simE_int)) (by kernel_rfl) (simG_name 10 rfl (by kernel_rfl)) simTs_nil (simE_ix (simE_var 3 rfl (by kernel_rfl)) (simE_var 10 rfl (by kernel_rfl))) (by decide))
    (simSs_cons (simS_setLc [("_law_many", 6)] loopN 8 rfl (by kernel_rfl) (by kernel_rfl) (by kernel_rfl) (by kernel_rfl) (simI_list (simE_var 7 rfl (by kernel_rfl))) (by kernel_rfl) (simG_name 6 rfl (by kernel_rfl)) (simTs_one (simT_notN (simE_var 6 rfl (by kernel_rfl)))) (simE_var 6 rfl (by kernel_rfl)) (by decide))
    (simSs_cons (simS_if (simT_in (simE_var 4 rfl (by kernel_rfl)) (simE_var 2 rfl (by kernel_rfl)))
    (simSs_one (simS_asg simE_int (simG_name 9 rfl (by kernel_rfl)) (by intro env hsc; obtain ⟨⟩ := env; cases hsc; rfl) (by intro env hsc; obtain ⟨⟩ := env; cases hsc; rfl)))
    (simSs_one (simS_if (simT_eq (simE_ix (simE_var 5 rfl (by kernel_rfl)) simE_int) (simE_var 1 rfl (by kernel_rfl)))
    (simSs_one (simS_asg (simE_if (simT_eq (simE_var 8 rfl (by kernel_rfl)) (simE_lst simA_nil)) simE_non (simE_add simE_int (simE_min (by kernel_rfl) F.b_min (simA_cons (simE_var 8 rfl (by kernel_rfl)) simA_nil)))) (simG_name 9 rfl (by kernel_rfl)) (by intro env hsc; obtain ⟨⟩ := env; cases hsc; rfl) (by intro env hsc; obtain ⟨⟩ := env; cases hsc; rfl)))
    (simSs_one (simS_asg (simE_if (simT_lt (simE_len (by kernel_rfl) F.b_len (simA_cons (simE_var 8 rfl (by kernel_rfl)) simA_nil)) (simE_len (by kernel_rfl) F.b_len (simA_cons (simE_var 7 rfl (by kernel_rfl)) simA_nil))) simE_non (simE_add simE_int (simE_max (by kernel_rfl) F.b_max (simA_cons (simE_var 8 rfl (by kernel_rfl)) simA_nil)))) (simG_name 9 rfl (by kernel_rfl)) (by intro env hsc; obtain ⟨⟩ := env; cases hsc; rfl) (by intro env hsc; obtain ⟨⟩ := env; cases hsc; rfl))))))
    (simSs_one (simS_if (simT_ne (simE_ix (simE_var 3 rfl (by kernel_rfl)) (simE_var 4 rfl (by kernel_rfl))) (simE_var 9 rfl (by kernel_rfl)))
    (simSs_one (simS_ret simE_bl))
    simSs_nil))))))
    (simSs_one (simS_ret simE_bl)))))
theorem sim_bad_aims {g : Gs} (F : Fx g) (dpick : DefOk g 3 "_law_pick" s_pick ps_pick d_pick) (E : XK) : SimSs (defC g N_bad_aims s_bad_aims 3 E) (defBody s_bad_aims) f_bad_aims :=
  (simSs_one (simS_ret (simE_call dpick lev (by kernel_rfl) b_pick (simA_cons (simE_var 0 rfl (by kernel_rfl)) (simA_cons (simE_lst (simA_cons simE_non (simA_cons simE_int (simA_cons (simE_lst (simA_cons simE_int simA_nil)) (simA_cons (simE_tup (simA_cons (simE_var 1 rfl (by kernel_rfl)) simA_nil)) (simA_cons (simE_tup (simA_cons (simE_neg simE_int) simA_nil)) (simA_cons (simE_tup (simA_cons simE_bl simA_nil)) (simA_cons (simE_tup (simA_cons simE_str simA_nil)) (simA_cons (simE_tup (simA_cons simE_int (simA_cons simE_int simA_nil))) (simA_cons (simE_tup (simA_cons (simE_sub (simE_var 1 rfl (by kernel_rfl)) simE_int) (simA_cons (simE_var 1 rfl (by kernel_rfl)) simA_nil))) (simA_cons (simE_tup (simA_cons simE_non simA_nil)) (simA_cons (simE_tup (simA_cons (simE_tup (simA_cons simE_int simA_nil)) simA_nil)) simA_nil)))))))))))) simA_nil)))))
theorem bk_p_drawn : ∀ (kV doc pm : Value) (an : Option Addr) (cdv ct : Value) (ws ys : List Value), ws.length = 3 → perm [2, 1, 0] ws = some ys → bindArgs (PySem.W.fnOf "drawn" "drawn" (defArgs s_p_drawn) (defBody s_p_drawn) (defScope s_p_drawn) .none kV doc pm an cdv ct) ⟨[], (["aims", "side", "game"] : List Str).zip ws⟩ = pure (ps_p_drawn.zip ys) := fun _ _ _ _ _ _ ws ys hl hp => match ws, hl with | [_, _, _], _ => by cases hp; rfl
theorem sim_main {g : Gs} (F : Fx g) {u P : Addr} (TB : LamX.TabB g.base g.mg u P) (hT1 : (P, ("law" ++ ".<locals>." ++ "<lambda>" : Str)) ∈ g.T) (hT2 : ∀ p ∈ g.T, p.1 = P → p.2 = ("law" ++ ".<locals>." ++ "<lambda>" : Str)) (dp_drawn : DefOk g 5 "drawn" s_p_drawn ps_p_drawn d_p_drawn) (dbegun : DefOk g 1 "_law_begun" s_begun ps_begun d_begun) (dtake : DefOk g 2 "_law_take" s_take ps_take d_take) (dpick : DefOk g 3 "_law_pick" s_pick ps_pick d_pick) (dshuffled : DefOk g 3 "_law_shuffled" s_shuffled ps_shuffled d_shuffled) (dgame : DefOk g 5 "_law_game" s_game ps_game d_game) (dbad_game : DefOk g 4 "_law_bad_game" s_bad_game ps_bad_game d_bad_game) (dis_drawn : DefOk g 2 "_law_is_drawn" s_is_drawn ps_is_drawn d_is_drawn) (dbad_aims : DefOk g 4 "_law_bad_aims" s_bad_aims ps_bad_aims d_bad_aims) (E : XK) : SimSs { defC g N_main s_main 7 E with gd := true, lam := some (u, "law" ++ ".<locals>.") } (defBody s_main) f_main :=
  (simSs_cons (simS_asg (simE_call dbegun lev (by kernel_rfl) b_begun (simA_cons (simE_var 0 rfl (by kernel_rfl)) simA_nil)) (simG_name 1 rfl (by kernel_rfl)) (by intro env hsc; obtain ⟨⟩ := env; cases hsc; rfl) (by intro env hsc; obtain ⟨⟩ := env; cases hsc; rfl))
    (simSs_cons (simS_for loopN (simI_range (by kernel_rfl) F.b_range (simA_cons (simE_add simE_int (simE_min (by kernel_rfl) F.b_min (simA_cons (simE_len (by kernel_rfl) F.b_len (simA_cons (simE_var 0 rfl (by kernel_rfl)) simA_nil)) (simA_cons simE_int simA_nil)))) simA_nil)) (simG_name 2 rfl (by kernel_rfl))
    (simSs_cons (simS_asg (simE_tup (simA_cons (simE_call dgame lev (by kernel_rfl) b_game (simA_cons (simE_var 1 rfl (by kernel_rfl)) (simA_cons simE_int (simA_cons simE_int simA_nil)))) (simA_cons (simE_call dtake lev (by kernel_rfl) b_take (simA_cons (simE_var 1 rfl (by kernel_rfl)) (simA_cons simE_int simA_nil))) simA_nil))) (simG_tup 2 (simGs_cons (simG_name 7 rfl (by kernel_rfl)) (simGs_cons (simG_name 9 rfl (by kernel_rfl)) simGs_nil))) (by intro env hsc; obtain ⟨⟩ := env; cases hsc; rfl) (by intro env hsc; obtain ⟨⟩ := env; cases hsc; rfl))
    (simSs_cons (simS_asg (simE_len (by kernel_rfl) F.b_len (simA_cons (simE_ix (simE_var 7 rfl (by kernel_rfl)) simE_int) simA_nil)) (simG_name 3 rfl (by kernel_rfl)) (by intro env hsc; obtain ⟨⟩ := env; cases hsc; rfl) (by intro env hsc; obtain ⟨⟩ := env; cases hsc; rfl))
    (simSs_cons (simS_asg (simE_tupleOf (by kernel_rfl) F.b_tuple (simA_cons (simE_sorted (by kernel_rfl) F.b_sorted (simA_cons (simE_slice (simE_call dshuffled lev (by kernel_rfl) b_shuffled (simA_cons (simE_var 1 rfl (by kernel_rfl)) (simA_cons (simE_listRg (by kernel_rfl) F.b_list (by kernel_rfl) F.b_range (simE_var 3 rfl (by kernel_rfl))) simA_nil))) simO_none (simO_some (simE_call dpick lev (by kernel_rfl) b_pick (simA_cons (simE_var 1 rfl (by kernel_rfl)) (simA_cons (simE_lst (simA_cons simE_int (simA_cons simE_int (simA_cons simE_int (simA_cons simE_int (simA_cons simE_int (simA_cons (simE_var 3 rfl (by kernel_rfl)) simA_nil))))))) simA_nil))))) simA_nil)) simA_nil)) (simG_name 4 rfl (by kernel_rfl)) (by intro env hsc; obtain ⟨⟩ := env; cases hsc; rfl) (by intro env hsc; obtain ⟨⟩ := env; cases hsc; rfl))
    (simSs_cons (simS_asg (simE_call dp_drawn lev (by kernel_rfl) b_p_drawn (simA_cons (simE_var 7 rfl (by kernel_rfl)) (simA_cons (simE_var 9 rfl (by kernel_rfl)) (simA_cons (simE_var 4 rfl (by kernel_rfl)) simA_nil)))) (simG_name 5 rfl (by kernel_rfl)) (by intro env hsc; obtain ⟨⟩ := env; cases hsc; rfl) (by intro env hsc; obtain ⟨⟩ := env; cases hsc; rfl))
    (simSs_cons (simS_if (SimW.t (simW_or (simT_not (simT_val (simE_call dis_drawn lev (by kernel_rfl) b_is_drawn (simA_cons (simE_var 7 rfl (by kernel_rfl)) (simA_cons (simE_var 9 rfl (by kernel_rfl)) (simA_cons (simE_var 4 rfl (by kernel_rfl)) (simA_cons (simE_var 5 rfl (by kernel_rfl)) simA_nil))))))) (simW_or1 (simT_ne (simE_repr rfl (by kernel_rfl) F.b_repr (simA_cons (simE_callK (ks := ["aims", "side", "game"]) [2, 1, 0] dp_drawn lev (by kernel_rfl) rfl (by intro _; rfl) (by intro _; rfl) (by intro _; rfl) bk_p_drawn (simK_cons (simE_var 4 rfl (by kernel_rfl)) (simK_cons (simE_var 9 rfl (by kernel_rfl)) (simK_cons (simE_var 7 rfl (by kernel_rfl)) simK_nil)))) simA_nil)) (simE_repr rfl (by kernel_rfl) F.b_repr (simA_cons (simE_var 5 rfl (by kernel_rfl)) simA_nil))))))
    (simSs_one (simS_ret simE_bl))
    simSs_nil)
    (simSs_cons (simS_asg (simE_tup (simA_cons (simE_call dbad_aims lev (by kernel_rfl) b_bad_aims (simA_cons (simE_var 1 rfl (by kernel_rfl)) (simA_cons (simE_var 3 rfl (by kernel_rfl)) simA_nil))) (simA_cons (simE_call dpick lev (by kernel_rfl) b_pick (simA_cons (simE_var 1 rfl (by kernel_rfl)) (simA_cons (simE_lst (simA_cons simE_int (simA_cons (simE_neg simE_int) (simA_cons simE_bl (simA_cons simE_non (simA_cons simE_str (simA_cons (simE_tup (simA_cons simE_int simA_nil)) simA_nil))))))) simA_nil))) simA_nil))) (simG_tup 2 (simGs_cons (simG_name 6 rfl (by kernel_rfl)) (simGs_cons (simG_name 8 rfl (by kernel_rfl)) simGs_nil))) (by intro env hsc; obtain ⟨⟩ := env; cases hsc; rfl) (by intro env hsc; obtain ⟨⟩ := env; cases hsc; rfl))
    (simSs_cons (simS_asg (simE_call dbad_game lev (by kernel_rfl) b_bad_game (simA_cons (simE_var 1 rfl (by kernel_rfl)) simA_nil)) (simG_name 10 rfl (by kernel_rfl)) (by intro env hsc; obtain ⟨⟩ := env; cases hsc; rfl) (by intro env hsc; obtain ⟨⟩ := env; cases hsc; rfl))
    (simSs_cons (simS_if (simT_not (simT_val (simE_isV F.tab (by kernel_rfl) F.b_isinstance (simA_cons (simE_caught F.catcher rfl TB hT1 hT2 (k := 5) lev (by kernel_rfl) (by kernel_rfl) (by intro _; rfl) (by intro _ _ _ _ _; rfl) fun _ => (simE_call dp_drawn lev (by kernel_rfl) b_p_drawn (simA_cons (simE_var 10 rfl (by kernel_rfl)) (simA_cons (simE_var 8 rfl (by kernel_rfl)) (simA_cons (simE_var 6 rfl (by kernel_rfl)) simA_nil))))) (simA_cons (simE_cls (by kernel_rfl) (F.k_BadGame)) simA_nil)))))
    (simSs_one (simS_ret simE_bl))
    simSs_nil)
    (simSs_cons (simS_if (simT_not (simT_val (simE_isV F.tab (by kernel_rfl) F.b_isinstance (simA_cons (simE_caught F.catcher rfl TB hT1 hT2 (k := 5) lev (by kernel_rfl) (by kernel_rfl) (by intro _; rfl) (by intro _ _ _ _ _; rfl) fun _ => (simE_call dp_drawn lev (by kernel_rfl) b_p_drawn (simA_cons (simE_var 7 rfl (by kernel_rfl)) (simA_cons (simE_var 8 rfl (by kernel_rfl)) (simA_cons (simE_var 6 rfl (by kernel_rfl)) simA_nil))))) (simA_cons (simE_cls (by kernel_rfl) (F.k_BadSide)) simA_nil)))))
    (simSs_one (simS_ret simE_bl))
    simSs_nil)
    (simSs_cons (simS_if (simT_not (simT_val (simE_isV F.tab (by kernel_rfl) F.b_isinstance (simA_cons (simE_caught F.catcher rfl TB hT1 hT2 (k := 5) lev (by kernel_rfl) (by kernel_rfl) (by intro _; rfl) (by intro _ _ _ _ _; rfl) fun _ => (simE_call dp_drawn lev (by kernel_rfl) b_p_drawn (simA_cons (simE_var 7 rfl (by kernel_rfl)) (simA_cons (simE_var 9 rfl (by kernel_rfl)) (simA_cons (simE_var 6 rfl (by kernel_rfl)) simA_nil))))) (simA_cons (simE_cls (by kernel_rfl) (F.k_BadAims)) simA_nil)))))
    (simSs_one (simS_ret simE_bl))
    simSs_nil)
    (simSs_one (simS_if (SimW.t (simW_and (simT_gt (simE_var 3 rfl (by kernel_rfl)) simE_int) (simW_and1 (simT_not (simT_val (simE_isV F.tab (by kernel_rfl) F.b_isinstance (simA_cons (simE_caught F.catcher rfl TB hT1 hT2 (k := 5) lev (by kernel_rfl) (by kernel_rfl) (by intro _; rfl) (by intro _ _ _ _ _; rfl) fun _ => (simE_call dp_drawn lev (by kernel_rfl) b_p_drawn (simA_cons (simE_var 7 rfl (by kernel_rfl)) (simA_cons (simE_var 9 rfl (by kernel_rfl)) (simA_cons (simE_tup (simA_cons simE_int (simA_cons simE_int simA_nil))) simA_nil))))) (simA_cons (simE_cls (by kernel_rfl) (F.k_BadAims)) simA_nil))))))))
    (simSs_one (simS_ret simE_bl))
    simSs_nil)))))))))))))
    (simSs_one (simS_ret simE_bl))))
end L_k09

set_option maxHeartbeats 4000000
namespace L_k09
open PySem PySem.Spec PyProof.Rows L2 S3
/-! ### what the head is asked -/
def dl : List He.DefD := [⟨("back_of", none), "back_of", "back_of", defArgs s_p_back_of, defBody s_p_back_of, defScope s_p_back_of, [], []⟩,
  ⟨("is_number", none), "is_number", "is_number", defArgs s_p_is_number, defBody s_p_is_number, defScope s_p_is_number, [], []⟩,
  ⟨("is_row", none), "is_row", "is_row", defArgs s_p_is_row, defBody s_p_is_row, defScope s_p_is_row, [], []⟩,
  ⟨("is_game", none), "is_game", "is_game", defArgs s_p_is_game, defBody s_p_is_game, defScope s_p_is_game, [], []⟩,
  ⟨("need_game", none), "need_game", "need_game", defArgs s_p_need_game, defBody s_p_need_game, defScope s_p_need_game, [], []⟩,
  ⟨("need_side", none), "need_side", "need_side", defArgs s_p_need_side, defBody s_p_need_side, defScope s_p_need_side, [], []⟩,
  ⟨("are_aims", none), "are_aims", "are_aims", defArgs s_p_are_aims, defBody s_p_are_aims, defScope s_p_are_aims, [], []⟩,
  ⟨("drawn", none), "drawn", "drawn", defArgs s_p_drawn, defBody s_p_drawn, defScope s_p_drawn, [], []⟩,
  ⟨("_law_begun", none), "_law_begun", "_law_begun", defArgs s_begun, defBody s_begun, defScope s_begun, [], []⟩,
  ⟨("_law_mixed", none), "_law_mixed", "_law_mixed", defArgs s_mixed, defBody s_mixed, defScope s_mixed, [], []⟩,
  ⟨("_law_take", none), "_law_take", "_law_take", defArgs s_take, defBody s_take, defScope s_take, [], []⟩,
  ⟨("_law_pick", none), "_law_pick", "_law_pick", defArgs s_pick, defBody s_pick, defScope s_pick, [], []⟩,
  ⟨("_law_shuffled", none), "_law_shuffled", "_law_shuffled", defArgs s_shuffled, defBody s_shuffled, defScope s_shuffled, [], []⟩,
  ⟨("_law_goals", none), "_law_goals", "_law_goals", defArgs s_goals, defBody s_goals, defScope s_goals, [], []⟩,
  ⟨("_law_game", none), "_law_game", "_law_game", defArgs s_game, defBody s_game, defScope s_game, [], []⟩,
  ⟨("_law_bad_game", none), "_law_bad_game", "_law_bad_game", defArgs s_bad_game, defBody s_bad_game, defScope s_bad_game, [], []⟩,
  ⟨("_law_is_number", none), "_law_is_number", "_law_is_number", defArgs s_is_number, defBody s_is_number, defScope s_is_number, [], []⟩,
  ⟨("_law_is_tuple", none), "_law_is_tuple", "_law_is_tuple", defArgs s_is_tuple, defBody s_is_tuple, defScope s_is_tuple, [], []⟩,
  ⟨("_law_is_drawn", none), "_law_is_drawn", "_law_is_drawn", defArgs s_is_drawn, defBody s_is_drawn, defScope s_is_drawn, [], []⟩,
  ⟨("_law_bad_aims", none), "_law_bad_aims", "_law_bad_aims", defArgs s_bad_aims, defBody s_bad_aims, defScope s_bad_aims, [], []⟩,
  ⟨("law", none), "law", "law", defArgs s_main, defBody s_main, defScope s_main, [], []⟩,
  ⟨("_law_caught", none), "_law_caught", "_law_caught", defArgs s_caught, defBody s_caught, defScope s_caught, [], []⟩]
def fal : List He.Fa := [.glo "back_of", .glo "is_number", .glo "is_row", .glo "is_game", .glo "need_game", .glo "need_side", .glo "are_aims", .glo "drawn", .glo "_law_begun", .glo "_law_mixed", .glo "_law_take", .glo "_law_pick", .glo "_law_shuffled", .glo "_law_goals", .glo "_law_game", .glo "_law_bad_game", .glo "_law_is_number", .glo "_law_is_tuple", .glo "_law_is_drawn", .glo "_law_bad_aims", .glo "law", .glo "_law_caught", .free "abs", .free "all", .free "bool", .free "enumerate", .free "int", .free "isinstance", .free "len", .free "list", .free "max", .free "min", .free "range", .free "repr", .free "set", .free "sorted", .free "str", .free "tuple", .free "zip", .int "MOST_GOALS" 4000, .int "MOST_RANK" 301, .int "MOST_ROWS" 20000, .glo "BoughError", .glo "BadAims", .glo "BadGame", .glo "BadSide", .exc "BoughError", .exc "BadAims", .exc "BadGame", .exc "BadSide"]
def nm (i : Nat) : Str := (["BoughError", "BadAims", "BadGame", "BadSide"] : List Str).getD (clsNo i) "BoughError"
def exB (K : PySem.W.Frag) (D : Addr) : Bool := He.eqO (PySem.W.findIn K (.ref D) "__getattribute__") (some (some (.builtin "BaseException.__getattribute__"))) && (He.eqO (PySem.W.findIn K (.ref D) "__getattr__") (some none) &&
  (decide (PySem.W.subIn K (.ref D) (.type "BaseException") = some true) && (PySem.W.hasDictIn K D && (He.eqO (PySem.W.findIn K (.ref D) "__class__") (some (some (.builtin "object.__class__"))) && (He.eqO (PySem.W.specialIn K (.builtin "object.__class__") "__get__") (some (some (.builtin "getset_descriptor.__get__"))) &&
  (decide (PySem.W.takesIn K (.builtin "object.__class__") = some true) && decide (PySem.W.mroIn K D (.type "object") = some true)))))))
def exT (K : PySem.W.Frag) : Bool := (List.range 4).all fun i => exB K (He.ga K (nm i)) && (decide (PySem.W.exmOne K (.ref (He.ga K (nm i))) (.ref (He.ga K (nm 0))) = some true) && (List.range 4).all fun j => decide (PySem.W.kitOne K (.ref (He.ga K (nm i))) (.ref (He.ga K (nm j))) = some (tab i j)))
theorem clsNo_lt (i : Nat) : clsNo i < 4 := by
  unfold clsNo
  split <;> omega
theorem clsNo_idem (i : Nat) : clsNo (clsNo i) = clsNo i := by
  have h := clsNo_lt i
  show (if clsNo i < 4 then clsNo i else 0) = clsNo i
  rw [if_pos h]
theorem nm_no (i : Nat) : nm (clsNo i) = nm i := by
  unfold nm
  rw [clsNo_idem]
theorem tab_no (i j : Nat) : tab (clsNo i) (clsNo j) = tab i j := by
  unfold tab
  rw [clsNo_idem, clsNo_idem]
theorem exB_ok {K : PySem.W.Frag} {D : Addr} (h : exB K D = true) : ExcC K D := by
  obtain ⟨h1, h⟩ := He.ba h
  obtain ⟨h2, h⟩ := He.ba h
  obtain ⟨h3, h⟩ := He.ba h
  obtain ⟨h4, h⟩ := He.ba h
  obtain ⟨h5, h⟩ := He.ba h
  obtain ⟨h6, h⟩ := He.ba h
  obtain ⟨h7, h8⟩ := He.ba h
  exact ⟨He.eqO_ok h1, He.eqO_ok h2, of_decide_eq_true h3, h4, He.eqO_ok h5, He.eqO_ok h6, of_decide_eq_true h7, of_decide_eq_true h8⟩
theorem exT_at {K : PySem.W.Frag} (h : exT K = true) (i : Nat) : ExcC K (He.ga K (nm i)) ∧ PySem.W.exmOne K (.ref (He.ga K (nm i))) (.ref (He.ga K (nm 0))) = some true ∧ ∀ j, PySem.W.kitOne K (.ref (He.ga K (nm i))) (.ref (He.ga K (nm j))) = some (tab i j) := by
  have h1 := List.all_eq_true.mp h (clsNo i) (List.mem_range.mpr (clsNo_lt i))
  obtain ⟨h2, h3⟩ := He.ba h1
  obtain ⟨h4, h5⟩ := He.ba h3
  rw [nm_no] at h2 h4
  refine ⟨exB_ok h2, of_decide_eq_true h4, fun j => ?_⟩
  have h6 := of_decide_eq_true (List.all_eq_true.mp h5 (clsNo j) (List.mem_range.mpr (clsNo_lt j)))
  rw [nm_no, nm_no, tab_no] at h6
  exact h6
abbrev R : PySem.W.OpenRow := PySem.W.OpenLaw.row PySem.Challenge.rw_allboughs_k09_whole_plays_drawn_to_rows
abbrev hk : PySem.W.Hook := He.hookX 4 fal dl [] [("law", none)] exT
def ob (s : PySem.W.SharedT) : He.AlX := He.obsX 4 fal dl [] [("law", none)] exT (HandSHeadRun.getT s)
theorem ob_eq (s : PySem.W.SharedT) : ob s = hk.obs s.abs := He.obsX_eq (HandSHeadRun.getT_eq s)
def loose : List Str := (["BoughError", "BadAims", "BadGame", "BadSide", "back_of", "is_number", "MOST_ROWS", "MOST_RANK", "MOST_GOALS", "is_row", "is_game", "need_game", "need_side", "are_aims", "drawn", "_law_begun", "_law_mixed", "_law_take", "_law_pick", "_law_shuffled", "_law_caught", "_law_is_number", "_law_goals", "_law_game", "_law_bad_game", "_law_is_tuple", "_law_is_drawn", "_law_bad_aims"] : List Str)
theorem run (w : World) : HandSHeadRun.RunEq R (PySem.W.view R.prog [34]) hk ob 4000 loose w := by
  intro os
  kernel_rfl
/-! ### what it tells -/
section
variable {w : World} {h base : Heap} {K : PySem.W.Frag} {mg : Str → Option Value}
def gs (P : Program) (w : World) (K : PySem.W.Frag) (mg : Str → Option Value) (base : Heap) : Gs := ⟨P, w, K, mg, base, fun i => He.ga K (nm i), fun _ => 0, [((He.cT K ("law", none)).2, ("law" ++ ".<locals>." ++ "<lambda>" : Str))]⟩
theorem glo_of (KX : K.In h) (G : h.Ns mainGlobals mg) (c : He.SaysX fal dl [] [("law", none)] exT w h K) (x : Str) (hx : (He.Fa.glo x) ∈ fal) : mg x = some (.ref (He.ga K x)) := He.glo_ok KX G (He.SaysD.facts c.t.d hx)
theorem fun_of (c : He.SaysX fal dl [] [("law", none)] exT w h K) {x : Str} {st : Stmt} (hd : (⟨(x, none), x, x, defArgs st, defBody st, defScope st, [], []⟩ : He.DefD) ∈ dl) : ∃ fd, L2.Fun K x x st (He.ga K x) fd := by
  obtain ⟨fd, ⟨⟨oc, od, dV, kV, doc, pm, an, cdv, ct, osl, e1, e2, e3, e4, e5⟩, kp⟩⟩ := He.SaysD.defs c.t.d hd
  have e4' : dV = .none := by
    rcases e4 with ⟨_, z⟩ | ⟨z, _⟩
    · exact z
    · exact absurd rfl z
  subst e4'
  exact ⟨fd, ⟨oc, od, kV, doc, pm, an, cdv, ct, osl, e1, e2, e3⟩, kp⟩
theorem fx_of {P : Program} (KX : K.In h) (G : h.Ns mainGlobals mg) (c : He.SaysX fal dl [] [("law", none)] exT w h K) : Fx (gs P w K mg base) where
  b_abs := He.free_ok KX G (He.SaysD.facts c.t.d (f := .free "abs") (by simp [fal]))
  b_all := He.free_ok KX G (He.SaysD.facts c.t.d (f := .free "all") (by simp [fal]))
  b_bool := He.free_ok KX G (He.SaysD.facts c.t.d (f := .free "bool") (by simp [fal]))
  b_enumerate := He.free_ok KX G (He.SaysD.facts c.t.d (f := .free "enumerate") (by simp [fal]))
  b_int := He.free_ok KX G (He.SaysD.facts c.t.d (f := .free "int") (by simp [fal]))
  b_isinstance := He.free_ok KX G (He.SaysD.facts c.t.d (f := .free "isinstance") (by simp [fal]))
  b_len := He.free_ok KX G (He.SaysD.facts c.t.d (f := .free "len") (by simp [fal]))
  b_list := He.free_ok KX G (He.SaysD.facts c.t.d (f := .free "list") (by simp [fal]))
  b_max := He.free_ok KX G (He.SaysD.facts c.t.d (f := .free "max") (by simp [fal]))
  b_min := He.free_ok KX G (He.SaysD.facts c.t.d (f := .free "min") (by simp [fal]))
  b_range := He.free_ok KX G (He.SaysD.facts c.t.d (f := .free "range") (by simp [fal]))
  b_repr := He.free_ok KX G (He.SaysD.facts c.t.d (f := .free "repr") (by simp [fal]))
  b_set := He.free_ok KX G (He.SaysD.facts c.t.d (f := .free "set") (by simp [fal]))
  b_sorted := He.free_ok KX G (He.SaysD.facts c.t.d (f := .free "sorted") (by simp [fal]))
  b_str := He.free_ok KX G (He.SaysD.facts c.t.d (f := .free "str") (by simp [fal]))
  b_tuple := He.free_ok KX G (He.SaysD.facts c.t.d (f := .free "tuple") (by simp [fal]))
  b_zip := He.free_ok KX G (He.SaysD.facts c.t.d (f := .free "zip") (by simp [fal]))
  c_MOST_GOALS := He.int_ok KX G (He.SaysD.facts c.t.d (f := .int "MOST_GOALS" 4000) (by simp [fal]))
  c_MOST_RANK := He.int_ok KX G (He.SaysD.facts c.t.d (f := .int "MOST_RANK" 301) (by simp [fal]))
  c_MOST_ROWS := He.int_ok KX G (He.SaysD.facts c.t.d (f := .int "MOST_ROWS" 20000) (by simp [fal]))
  k_BoughError := He.glo_ok KX G (He.SaysD.facts c.t.d (f := .glo "BoughError") (by simp [fal]))
  k_BadAims := He.glo_ok KX G (He.SaysD.facts c.t.d (f := .glo "BadAims") (by simp [fal]))
  k_BadGame := He.glo_ok KX G (He.SaysD.facts c.t.d (f := .glo "BadGame") (by simp [fal]))
  k_BadSide := He.glo_ok KX G (He.SaysD.facts c.t.d (f := .glo "BadSide") (by simp [fal]))
  x_BoughError := by
    obtain ⟨e1, e2, e3, e4⟩ := He.exc_ok (He.SaysD.facts c.t.d (f := .exc "BoughError") (by simp [fal]))
    exact ⟨e1, He.glo_ok KX G (He.SaysD.facts c.t.d (f := .glo "BoughError") (by simp [fal])), e2, e3, e4⟩
  x_BadAims := by
    obtain ⟨e1, e2, e3, e4⟩ := He.exc_ok (He.SaysD.facts c.t.d (f := .exc "BadAims") (by simp [fal]))
    exact ⟨e1, He.glo_ok KX G (He.SaysD.facts c.t.d (f := .glo "BadAims") (by simp [fal])), e2, e3, e4⟩
  x_BadGame := by
    obtain ⟨e1, e2, e3, e4⟩ := He.exc_ok (He.SaysD.facts c.t.d (f := .exc "BadGame") (by simp [fal]))
    exact ⟨e1, He.glo_ok KX G (He.SaysD.facts c.t.d (f := .glo "BadGame") (by simp [fal])), e2, e3, e4⟩
  x_BadSide := by
    obtain ⟨e1, e2, e3, e4⟩ := He.exc_ok (He.SaysD.facts c.t.d (f := .exc "BadSide") (by simp [fal]))
    exact ⟨e1, He.glo_ok KX G (He.SaysD.facts c.t.d (f := .glo "BadSide") (by simp [fal])), e2, e3, e4⟩
  tab := ⟨fun i j => (exT_at c.more i).2.2 j, fun i => (exT_at c.more i).1⟩
  catcher := by
    obtain ⟨fd, F⟩ := fun_of c (x := "_law_caught") (st := s_caught) (by simp [dl])
    refine ⟨⟨_, fd, s_caught, "_law_error", "caught", "BoughError", _, _, _, _, _, _, _, _, _, _, _, _, _, _, default, default, F, glo_of KX G c "_law_caught" (by simp [fal]), rfl, C8.fnScope_by (by decide +kernel), by kernel_rfl, by kernel_rfl, by kernel_rfl, by kernel_rfl, glo_of KX G c "BoughError" (by simp [fal]), by decide +kernel, by decide +kernel, by decide +kernel, by decide +kernel, by decide +kernel, by decide +kernel, by decide +kernel, fun _ _ _ _ _ _ us hl => match us, hl with | [_], _ => rfl⟩, fun i => (exT_at c.more i).2.1⟩
end
theorem ok_p_back_of {P : Program} {w : World} {h base : Heap} {K : PySem.W.Frag} {mg : Str → Option Value} (KX : K.In h) (G : h.Ns mainGlobals mg) (c : He.SaysX fal dl [] [("law", none)] exT w h K) : DefOk (gs P w K mg base) 1 "back_of" s_p_back_of ps_p_back_of d_p_back_of := by
  obtain ⟨fd, F⟩ := fun_of c (x := "back_of") (st := s_p_back_of) (by simp [dl])
  exact defOk_of F (glo_of KX G c "back_of" (by simp [fal])) sc_p_back_of fun E => sim_p_back_of (fx_of KX G c)  E
theorem ok_p_is_number {P : Program} {w : World} {h base : Heap} {K : PySem.W.Frag} {mg : Str → Option Value} (KX : K.In h) (G : h.Ns mainGlobals mg) (c : He.SaysX fal dl [] [("law", none)] exT w h K) : DefOk (gs P w K mg base) 1 "is_number" s_p_is_number ps_p_is_number d_p_is_number := by
  obtain ⟨fd, F⟩ := fun_of c (x := "is_number") (st := s_p_is_number) (by simp [dl])
  exact defOk_of F (glo_of KX G c "is_number" (by simp [fal])) sc_p_is_number fun E => sim_p_is_number (fx_of KX G c)  E
theorem ok_p_is_row {P : Program} {w : World} {h base : Heap} {K : PySem.W.Frag} {mg : Str → Option Value} (KX : K.In h) (G : h.Ns mainGlobals mg) (c : He.SaysX fal dl [] [("law", none)] exT w h K) : DefOk (gs P w K mg base) 2 "is_row" s_p_is_row ps_p_is_row d_p_is_row := by
  obtain ⟨fd, F⟩ := fun_of c (x := "is_row") (st := s_p_is_row) (by simp [dl])
  exact defOk_of F (glo_of KX G c "is_row" (by simp [fal])) sc_p_is_row fun E => sim_p_is_row (fx_of KX G c) (ok_p_is_number KX G c) E
theorem ok_p_is_game {P : Program} {w : World} {h base : Heap} {K : PySem.W.Frag} {mg : Str → Option Value} (KX : K.In h) (G : h.Ns mainGlobals mg) (c : He.SaysX fal dl [] [("law", none)] exT w h K) : DefOk (gs P w K mg base) 3 "is_game" s_p_is_game ps_p_is_game d_p_is_game := by
  obtain ⟨fd, F⟩ := fun_of c (x := "is_game") (st := s_p_is_game) (by simp [dl])
  exact defOk_of F (glo_of KX G c "is_game" (by simp [fal])) sc_p_is_game fun E => sim_p_is_game (fx_of KX G c) (ok_p_is_row KX G c) E
theorem ok_p_need_game {P : Program} {w : World} {h base : Heap} {K : PySem.W.Frag} {mg : Str → Option Value} (KX : K.In h) (G : h.Ns mainGlobals mg) (c : He.SaysX fal dl [] [("law", none)] exT w h K) : DefOk (gs P w K mg base) 4 "need_game" s_p_need_game ps_p_need_game d_p_need_game := by
  obtain ⟨fd, F⟩ := fun_of c (x := "need_game") (st := s_p_need_game) (by simp [dl])
  exact defOk_of F (glo_of KX G c "need_game" (by simp [fal])) sc_p_need_game fun E => sim_p_need_game (fx_of KX G c) (ok_p_is_game KX G c) E
theorem ok_p_need_side {P : Program} {w : World} {h base : Heap} {K : PySem.W.Frag} {mg : Str → Option Value} (KX : K.In h) (G : h.Ns mainGlobals mg) (c : He.SaysX fal dl [] [("law", none)] exT w h K) : DefOk (gs P w K mg base) 2 "need_side" s_p_need_side ps_p_need_side d_p_need_side := by
  obtain ⟨fd, F⟩ := fun_of c (x := "need_side") (st := s_p_need_side) (by simp [dl])
  exact defOk_of F (glo_of KX G c "need_side" (by simp [fal])) sc_p_need_side fun E => sim_p_need_side (fx_of KX G c) (ok_p_is_number KX G c) E
theorem ok_p_are_aims {P : Program} {w : World} {h base : Heap} {K : PySem.W.Frag} {mg : Str → Option Value} (KX : K.In h) (G : h.Ns mainGlobals mg) (c : He.SaysX fal dl [] [("law", none)] exT w h K) : DefOk (gs P w K mg base) 2 "are_aims" s_p_are_aims ps_p_are_aims d_p_are_aims := by
  obtain ⟨fd, F⟩ := fun_of c (x := "are_aims") (st := s_p_are_aims) (by simp [dl])
  exact defOk_of F (glo_of KX G c "are_aims" (by simp [fal])) sc_p_are_aims fun E => sim_p_are_aims (fx_of KX G c) (ok_p_is_number KX G c) E
theorem ok_p_drawn {P : Program} {w : World} {h base : Heap} {K : PySem.W.Frag} {mg : Str → Option Value} (KX : K.In h) (G : h.Ns mainGlobals mg) (c : He.SaysX fal dl [] [("law", none)] exT w h K) : DefOk (gs P w K mg base) 5 "drawn" s_p_drawn ps_p_drawn d_p_drawn := by
  obtain ⟨fd, F⟩ := fun_of c (x := "drawn") (st := s_p_drawn) (by simp [dl])
  exact defOk_of F (glo_of KX G c "drawn" (by simp [fal])) sc_p_drawn fun E => sim_p_drawn (fx_of KX G c) (ok_p_back_of KX G c) (ok_p_need_game KX G c) (ok_p_need_side KX G c) (ok_p_are_aims KX G c) E
theorem ok_begun {P : Program} {w : World} {h base : Heap} {K : PySem.W.Frag} {mg : Str → Option Value} (KX : K.In h) (G : h.Ns mainGlobals mg) (c : He.SaysX fal dl [] [("law", none)] exT w h K) : DefOk (gs P w K mg base) 1 "_law_begun" s_begun ps_begun d_begun := by
  obtain ⟨fd, F⟩ := fun_of c (x := "_law_begun") (st := s_begun) (by simp [dl])
  exact defOk_of F (glo_of KX G c "_law_begun" (by simp [fal])) sc_begun fun E => sim_begun (fx_of KX G c)  E
theorem ok_mixed {P : Program} {w : World} {h base : Heap} {K : PySem.W.Frag} {mg : Str → Option Value} (KX : K.In h) (G : h.Ns mainGlobals mg) (c : He.SaysX fal dl [] [("law", none)] exT w h K) : DefOk (gs P w K mg base) 1 "_law_mixed" s_mixed ps_mixed d_mixed := by
  obtain ⟨fd, F⟩ := fun_of c (x := "_law_mixed") (st := s_mixed) (by simp [dl])
  exact defOk_of F (glo_of KX G c "_law_mixed" (by simp [fal])) sc_mixed fun E => sim_mixed (fx_of KX G c)  E
theorem ok_take {P : Program} {w : World} {h base : Heap} {K : PySem.W.Frag} {mg : Str → Option Value} (KX : K.In h) (G : h.Ns mainGlobals mg) (c : He.SaysX fal dl [] [("law", none)] exT w h K) : DefOk (gs P w K mg base) 2 "_law_take" s_take ps_take d_take := by
  obtain ⟨fd, F⟩ := fun_of c (x := "_law_take") (st := s_take) (by simp [dl])
  exact defOk_of F (glo_of KX G c "_law_take" (by simp [fal])) sc_take fun E => sim_take (fx_of KX G c) (ok_mixed KX G c) E
theorem ok_pick {P : Program} {w : World} {h base : Heap} {K : PySem.W.Frag} {mg : Str → Option Value} (KX : K.In h) (G : h.Ns mainGlobals mg) (c : He.SaysX fal dl [] [("law", none)] exT w h K) : DefOk (gs P w K mg base) 3 "_law_pick" s_pick ps_pick d_pick := by
  obtain ⟨fd, F⟩ := fun_of c (x := "_law_pick") (st := s_pick) (by simp [dl])
  exact defOk_of F (glo_of KX G c "_law_pick" (by simp [fal])) sc_pick fun E => sim_pick (fx_of KX G c) (ok_take KX G c) E
theorem ok_shuffled {P : Program} {w : World} {h base : Heap} {K : PySem.W.Frag} {mg : Str → Option Value} (KX : K.In h) (G : h.Ns mainGlobals mg) (c : He.SaysX fal dl [] [("law", none)] exT w h K) : DefOk (gs P w K mg base) 3 "_law_shuffled" s_shuffled ps_shuffled d_shuffled := by
  obtain ⟨fd, F⟩ := fun_of c (x := "_law_shuffled") (st := s_shuffled) (by simp [dl])
  exact defOk_of F (glo_of KX G c "_law_shuffled" (by simp [fal])) sc_shuffled fun E => sim_shuffled (fx_of KX G c) (ok_take KX G c) E
theorem ok_goals {P : Program} {w : World} {h base : Heap} {K : PySem.W.Frag} {mg : Str → Option Value} (KX : K.In h) (G : h.Ns mainGlobals mg) (c : He.SaysX fal dl [] [("law", none)] exT w h K) : DefOk (gs P w K mg base) 4 "_law_goals" s_goals ps_goals d_goals := by
  obtain ⟨fd, F⟩ := fun_of c (x := "_law_goals") (st := s_goals) (by simp [dl])
  exact defOk_of F (glo_of KX G c "_law_goals" (by simp [fal])) sc_goals fun E => sim_goals (fx_of KX G c) (ok_take KX G c) (ok_shuffled KX G c) E
theorem ok_game {P : Program} {w : World} {h base : Heap} {K : PySem.W.Frag} {mg : Str → Option Value} (KX : K.In h) (G : h.Ns mainGlobals mg) (c : He.SaysX fal dl [] [("law", none)] exT w h K) : DefOk (gs P w K mg base) 5 "_law_game" s_game ps_game d_game := by
  obtain ⟨fd, F⟩ := fun_of c (x := "_law_game") (st := s_game) (by simp [dl])
  exact defOk_of F (glo_of KX G c "_law_game" (by simp [fal])) sc_game fun E => sim_game (fx_of KX G c) (ok_take KX G c) (ok_pick KX G c) (ok_shuffled KX G c) (ok_goals KX G c) E
theorem ok_bad_game {P : Program} {w : World} {h base : Heap} {K : PySem.W.Frag} {mg : Str → Option Value} (KX : K.In h) (G : h.Ns mainGlobals mg) (c : He.SaysX fal dl [] [("law", none)] exT w h K) : DefOk (gs P w K mg base) 4 "_law_bad_game" s_bad_game ps_bad_game d_bad_game := by
  obtain ⟨fd, F⟩ := fun_of c (x := "_law_bad_game") (st := s_bad_game) (by simp [dl])
  exact defOk_of F (glo_of KX G c "_law_bad_game" (by simp [fal])) sc_bad_game fun E => sim_bad_game (fx_of KX G c) (ok_pick KX G c) E
theorem ok_is_number {P : Program} {w : World} {h base : Heap} {K : PySem.W.Frag} {mg : Str → Option Value} (KX : K.In h) (G : h.Ns mainGlobals mg) (c : He.SaysX fal dl [] [("law", none)] exT w h K) : DefOk (gs P w K mg base) 1 "_law_is_number" s_is_number ps_is_number d_is_number := by
  obtain ⟨fd, F⟩ := fun_of c (x := "_law_is_number") (st := s_is_number) (by simp [dl])
  exact defOk_of F (glo_of KX G c "_law_is_number" (by simp [fal])) sc_is_number fun E => sim_is_number (fx_of KX G c)  E
theorem ok_is_tuple {P : Program} {w : World} {h base : Heap} {K : PySem.W.Frag} {mg : Str → Option Value} (KX : K.In h) (G : h.Ns mainGlobals mg) (c : He.SaysX fal dl [] [("law", none)] exT w h K) : DefOk (gs P w K mg base) 1 "_law_is_tuple" s_is_tuple ps_is_tuple d_is_tuple := by
  obtain ⟨fd, F⟩ := fun_of c (x := "_law_is_tuple") (st := s_is_tuple) (by simp [dl])
  exact defOk_of F (glo_of KX G c "_law_is_tuple" (by simp [fal])) sc_is_tuple fun E => sim_is_tuple (fx_of KX G c)  E
theorem ok_is_drawn {P : Program} {w : World} {h base : Heap} {K : PySem.W.Frag} {mg : Str → Option Value} (KX : K.In h) (G : h.Ns mainGlobals mg) (c : He.SaysX fal dl [] [("law", none)] exT w h K) : DefOk (gs P w K mg base) 2 "_law_is_drawn" s_is_drawn ps_is_drawn d_is_drawn := by
  obtain ⟨fd, F⟩ := fun_of c (x := "_law_is_drawn") (st := s_is_drawn) (by simp [dl])
  exact defOk_of F (glo_of KX G c "_law_is_drawn" (by simp [fal])) sc_is_drawn fun E => sim_is_drawn (fx_of KX G c) (ok_is_number KX G c) (ok_is_tuple KX G c) E
theorem ok_bad_aims {P : Program} {w : World} {h base : Heap} {K : PySem.W.Frag} {mg : Str → Option Value} (KX : K.In h) (G : h.Ns mainGlobals mg) (c : He.SaysX fal dl [] [("law", none)] exT w h K) : DefOk (gs P w K mg base) 4 "_law_bad_aims" s_bad_aims ps_bad_aims d_bad_aims := by
  obtain ⟨fd, F⟩ := fun_of c (x := "_law_bad_aims") (st := s_bad_aims) (by simp [dl])
  exact defOk_of F (glo_of KX G c "_law_bad_aims" (by simp [fal])) sc_bad_aims fun E => sim_bad_aims (fx_of KX G c) (ok_pick KX G c) E
/-- the law is asked of a plain function -/
theorem law_at {w : World} {h : Heap} {K : PySem.W.Frag} {mg : Str → Option Value} (KX : K.In h) (G : h.Ns mainGlobals mg) (c : He.SaysX fal dl [] [("law", none)] exT w h K)
    (good : ∀ ns : List Int, ns.length ≤ 63 → (∀ z ∈ ns, Builtin.Int.intBits z ≤ 1048576) → ∃ st', d_main [.lcon (ns.map D.int)] [] = some (.ok (.bl true), st')) : LawAt PySem.Challenge.rw_allboughs_k09_whole_plays_drawn_to_rows w K 63 mg (He.ga K "law") h := by
  refine ⟨[He.cT K ("law", none)], fun p hp => ?_, fun p hp => ?_, fun p hp => ?_, fun ns hl hb => ?_⟩
  · rw [List.mem_singleton.mp hp]
    exact c.empty _ (List.mem_singleton.mpr rfl)
  · rw [List.mem_singleton.mp hp]
    exact c.out _ (List.mem_singleton.mpr rfl)
  · rw [List.mem_singleton.mp hp]
    exact PySem.W.codeHd_of_K KX (c.hd _ (List.mem_singleton.mpr rfl))
  · obtain ⟨fd, F⟩ := fun_of c (x := "law") (st := s_main) (by simp [dl])
    refine law_run (g := gs PySem.Challenge.rw_allboughs_k09_whole_plays_drawn_to_rows.prog w K mg h) (k := 7) (N := N_main) (u := (He.cT K ("law", none)).1) F (fun oc od dt osl lk => ?_) sc_main ⟨rfl, by decide, by decide⟩ b_main (fun q hq => ?_) (fun E base TB => ?_) (good ns hl hb)
    · obtain ⟨⟨oc2, od2, kV, doc, pm, an, cdv, ct, osl2, e1, e2, e3⟩, _⟩ := F
      have e2' : K.lookup (He.ga K "law") = some ⟨oc2, od2, .func fd, osl2⟩ := e2
      have lk' : K.lookup (He.ga K "law") = some ⟨oc, od, .func dt, osl⟩ := lk
      rw [e2'] at lk'
      have hdt : fd = dt := by
        injection lk' with z1
        injection z1 with _ _ z2 _
        injection z2
      rw [← hdt]
      obtain ⟨u, hu⟩ := He.codeIn_ref e3
      have hc : fd.code = .ref u := by rw [e1]; exact hu
      show fd.code = .ref (He.codeOf K ("law", none))
      rw [He.codeOf_eq (p := ("law", none)) e2' hc, hc]
    · rw [List.mem_singleton.mp hq]
      exact ⟨_, List.mem_singleton.mpr rfl⟩
    · exact sim_main (g := gs PySem.Challenge.rw_allboughs_k09_whole_plays_drawn_to_rows.prog w K mg base) (fx_of KX G c) (TB _ (List.mem_singleton.mpr rfl)) (List.mem_singleton.mpr rfl) (fun p hp _ => by rw [List.mem_singleton.mp hp]) (ok_p_drawn KX G c) (ok_begun KX G c) (ok_take KX G c) (ok_pick KX G c) (ok_shuffled KX G c) (ok_game KX G c) (ok_bad_game KX G c) (ok_is_drawn KX G c) (ok_bad_aims KX G c) E
end L_k09
open PySem PySem.W PySem.Calls PyProof.Rows
theorem L_k09.holds_of (good : ∀ ns : List Int, ns.length ≤ 63 → (∀ z ∈ ns, Builtin.Int.intBits z ≤ 1048576) → ∃ st', L_k09.d_main [.lcon (ns.map S3.D.int)] [] = some (.ok (.bl true), st')) : PySem.Challenge.rw_allboughs_k09_whole_plays_drawn_to_rows.Holds := by
  w_on; o_law
  refine HandSHeadRun.head_any (r := OpenLaw.row PySem.Challenge.rw_allboughs_k09_whole_plays_drawn_to_rows) (q := view (OpenLaw.row PySem.Challenge.rw_allboughs_k09_whole_plays_drawn_to_rows).prog [34]) (H := L_k09.hk) (ob := L_k09.ob) (M := 4000) (loose := L_k09.loose) (d := HandSHeadRun.topDef (OpenLaw.row PySem.Challenge.rw_allboughs_k09_whole_plays_drawn_to_rows).prog 34) (kwd := []) L_k09.ob_eq
    (by kernel_rfl) (fun s => by kernel_rfl) L_k09.run (by kernel_rfl) (by kernel_rfl) (by kernel_rfl) (by rfl) (by first | assumption | decide +kernel) (by decide +kernel) ⟨rfl, rfl, rfl, rfl, rfl, by decide +kernel⟩ ?hw ?hc
  case hw => w_witness2
  case hc =>
    refine S3.walk_go (l := PySem.Challenge.rw_allboughs_k09_whole_plays_drawn_to_rows) (n := 63) rfl (by decide) (by kernel_rfl) ?F
    intro w mg fa h Y G hmg0
    obtain ⟨K, KX, c⟩ := Y
    have e : (HandSHeadRun.topDef (OpenLaw.row PySem.Challenge.rw_allboughs_k09_whole_plays_drawn_to_rows).prog 34).name = ("law" : PySem.Str) := by kernel_rfl
    rw [e] at hmg0
    have e2 := hmg0.symm.trans (L_k09.glo_of KX G c "law" (by simp [L_k09.fal]))
    cases e2
    exact ⟨K, KX, L_k09.law_at KX G c good⟩

theorem PySem.Challenge.cw_allboughs_k09_whole_plays_drawn_to_rows_holds : PySem.Challenge.rw_allboughs_k09_whole_plays_drawn_to_rows.Holds := by
  exact L_k09.holds_of fun ns hl _ => by
    obtain ⟨r, s, e, q⟩ := L_k09.main_ok hl
    exact ⟨s, by rw [e, q]⟩
