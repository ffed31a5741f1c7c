import PyProof.Rows.All
import Wide.All
import OpenK.AllK
import Wide.FinOn
import PySem.Challenge.RW_allboughs_k01_what_stands_at_places
import HandS.ForMost
import HandS.ForExc
import HandS.Lambda
import HandS.Nested
import HandS.IsInst
import HandS.TupAny
import HandS.TupLe
import HandS.TupMul
import HandS.Deep
import HandS.Wide
import HandS.WideMore
import HandS.Text
import HandS.Small
import HandS.Dict
import HandS.SortInts
import HandS.Style
import HandS.Conv
import HandS.Comp
import HandS.DictComp
import HandS.Zip
import HandS.Iter
import HandS.ExcOwn
import HandS.WordsExc
import HandS.ExcValue
import HandS.ExcIs
import HandS.EndTab
import KE.GoesEnum
import HandS.SetFor
import PyProof.ReprRoads
import HandS.CallLocal
import HandS.NestedK
import HandS.Head0
import HandS.Head1
import HandS.Head2
import HandS.HeadHook4
set_option Elab.async false
set_option linter.all false
set_option maxRecDepth 100000
set_option maxHeartbeats 2000000
/-! S3A: data trees, the store of lists and dicts, how both are told by HandS's abstract heap; readings that follow a function. -/
namespace S3
open PySem PySem.Spec PyProof.Rows L2

/-- data: trees of what never changes, and places of the store -/
inductive D where
  | non
  | bl (b : Bool)
  | int (i : Int)
  | str (x : Str)
  | tup (xs : List D)
  | tcon (xs : List D)
  | lcon (xs : List D)
  | loc (n : Nat)
  | exn (c : Nat)
  | fn (i : Nat)
  | cl (i : Nat)
  | ty (s : String)

/-- what stands at a place of the store -/
inductive O where
  | lst (xs : List D)
  | dK (kvs : List (Key × D))
  | dT (kvs : List (List Key × D))

abbrev Sto := List O
abbrev Env3 := List (Option D)

/-- a function handed in: its slot, its place, its words -/
structure Lm where
  i : Nat
  a : Addr
  F : NdefX.NF
  e : Expr
  cs : List D
  ws : List V
/-- the object at a is the lambda of these words -/
def FnOE (a : Addr) (F : NdefX.NF) (e : Expr) : HO := .ext fun h => ∃ (od : Option Addr) (sl : Array (Option Value)) (pm ctv : Value), h.get? a = some (⟨.type "function", od, .func (PySem.W.kla_fn F.name F.qual F.params e F.scope F.cl pm (.ref F.c) ctv), sl⟩ : Obj)
/-- what is fixed: the program, the written part, where classes and defs stand, the tables of code objects -/
structure Gs where
  P : Program
  w : World
  K : PySem.W.Frag
  mg : Str → Option Value
  base : Heap
  cl : Nat → Addr
  fa : Nat → Addr
  T : List (Addr × Str)
  lam : Option Lm := none

class NL (g : Gs) (i : Nat) : Prop where
  ne : ∀ l, g.lam = some l → l.i ≠ i
class NoLam (g : Gs) : Prop where
  nl : g.lam = none
instance (g : Gs) (i : Nat) [h : NoLam g] : NL g i := ⟨fun l e => by rw [h.nl] at e; cases e⟩
class NLs (g : Gs) (vs : List Nat) : Prop where
  ne : ∀ i ∈ vs, ∀ l, g.lam = some l → l.i ≠ i
instance (g : Gs) (vs : List Nat) [h : NoLam g] : NLs g vs := ⟨fun i _ l e => by rw [h.nl] at e; cases e⟩
/-- an exception's object of the class at C, held as a value -/
def ExV (C a : Addr) : HO := .ext fun h => ∃ (oe : Obj) (vs : Array Value), h.get? a = some oe ∧ Zc (.ref C) none oe ∧ oe.data = .fields vs

mutual
inductive Rl (g : Gs) (ms : List Addr) (H : Hp) : D → V → Prop
  | non : Rl g ms H .non .non
  | bl (b : Bool) : Rl g ms H (.bl b) (.bl b)
  | int (i : Int) : Rl g ms H (.int i) (.int i)
  | str (x : Str) : Rl g ms H (.str x) (.str x)
  | tup {p : Addr} {vs : List V} {ds : List D} : H p = some (.tup vs) → RlA g ms H ds vs → Rl g ms H (.tup ds) (.ref p)
  | tcon {p : Addr} {vs : List V} {ds : List D} : (∀ H' : Hp, SqT g.K H' p vs ∧ L2.TyX g.K H' (.ref p) (.type "tuple")) → RlA g ms H ds vs → Rl g ms H (.tcon ds) (.ref p)
  | lcon {p : Addr} {vs : List V} {ds : List D} : (∀ H' : Hp, (∀ b o u, H b = some (.frz o u) → H' b = some (.frz o u)) → SqL g.K H' p vs) → RlA g ms H ds vs → Rl g ms H (.lcon ds) (.ref p)
  | loc {n : Nat} {a : Addr} : ms[n]? = some a → Rl g ms H (.loc n) (.ref a)
  | exn {c : Nat} {a : Addr} : H a = some (ExV (g.cl c) a) → Rl g ms H (.exn c) (.ref a)
  | fn (i : Nat) : Rl g ms H (.fn i) (.ref (g.fa i))
  | cl (i : Nat) : Rl g ms H (.cl i) (.ref (g.cl i))
  | ty (s : String) : Rl g ms H (.ty s) (.ty s)
inductive RlA (g : Gs) (ms : List Addr) (H : Hp) : List D → List V → Prop
  | nil : RlA g ms H [] []
  | cons {d : D} {v : V} {ds : List D} {vs : List V} : Rl g ms H d v → RlA g ms H ds vs → RlA g ms H (d :: ds) (v :: vs)
end

/-- what never changes -/
def Fx : HO → Prop
  | .tup _ => True
  | .frz _ _ => True
  | .ext _ => True
  | _ => False
/-- fixed things stay -/
structure Le (H H' : Hp) : Prop where
  fx : ∀ b o, H b = some o → Fx o → H' b = some o
theorem Le.refl (H : Hp) : Le H H := ⟨fun _ _ h _ => h⟩
theorem Le.trans {H H1 H2 : Hp} (a : Le H H1) (b : Le H1 H2) : Le H H2 := ⟨fun c o h f => b.fx c o (a.fx c o h f) f⟩
theorem Le.new {H : Hp} {p : Addr} {o : HO} (h : H p = none) : Le H (upd H p o) := ⟨fun b u e _ => by rw [upd_ne (ne_of_none e h)]; exact e⟩
theorem Le.put {H : Hp} {p : Addr} {o u : HO} (h : H p = some u) (f : ¬ Fx u) : Le H (upd H p o) := ⟨fun b z e q => by
  rw [upd_ne fun x => f (by rw [x, h] at e; cases e; exact q)]
  exact e⟩
theorem Le.sqT {K : PySem.W.Frag} {H H' : Hp} (l : Le H H') {p : Addr} {vs : List V} (h : SqT K H p vs) : SqT K H' p vs := by
  rcases h with (h | ⟨o, h⟩) | h
  · exact .inl (.inl (l.fx _ _ h trivial))
  · exact .inl (.inr ⟨o, l.fx _ _ h trivial⟩)
  · exact .inr h

mutual
theorem Rl.mono {g : Gs} {ms ms' : List Addr} {H H' : Hp} (hm : ms <+: ms') (l : Le H H') : ∀ {d : D} {v : V}, Rl g ms H d v → Rl g ms' H' d v
  | _, _, .non => .non
  | _, _, .bl b => .bl b
  | _, _, .int i => .int i
  | _, _, .str x => .str x
  | _, _, .tup h a => .tup (l.fx _ _ h trivial) (a.mono hm l)
  | _, _, .tcon h a => .tcon h (a.mono hm l)
  | _, _, .lcon h a => .lcon (fun H2 k => h H2 fun b o u e => k b o u (l.fx _ _ e trivial)) (a.mono hm l)
  | _, _, .loc h => .loc (by
      obtain ⟨t, rfl⟩ := hm
      exact List.getElem?_append_left (List.getElem?_eq_some_iff.mp h).1 ▸ h)
  | _, _, .exn h => .exn (l.fx _ _ h trivial)
  | _, _, .fn i => .fn i
  | _, _, .cl i => .cl i
  | _, _, .ty s => .ty s
theorem RlA.mono {g : Gs} {ms ms' : List Addr} {H H' : Hp} (hm : ms <+: ms') (l : Le H H') : ∀ {ds : List D} {vs : List V}, RlA g ms H ds vs → RlA g ms' H' ds vs
  | _, _, .nil => .nil
  | _, _, .cons h a => .cons (h.mono hm l) (a.mono hm l)
end
section
variable {g : Gs} {ms : List Addr} {H : Hp}
theorem RlA.length : ∀ {ds : List D} {vs : List V}, RlA g ms H ds vs → ds.length = vs.length
  | _, _, .nil => rfl
  | _, _, .cons _ a => by rw [List.length_cons, List.length_cons, a.length]
theorem RlA.get : ∀ {ds : List D} {vs : List V} {i : Nat} {d : D}, RlA g ms H ds vs → ds[i]? = some d → ∃ v, vs[i]? = some v ∧ Rl g ms H d v
  | _, _, _, _, .nil, e => by simp at e
  | _, _, 0, _, .cons r _, e => by simp at e; subst e; exact ⟨_, rfl, r⟩
  | _, _, i + 1, d, .cons _ t, e => by
    obtain ⟨u, h1, h2⟩ := RlA.get (i := i) (d := d) t (by simpa using e)
    exact ⟨u, by simpa using h1, h2⟩
theorem RlA.append : ∀ {ds es : List D} {vs us : List V}, RlA g ms H ds vs → RlA g ms H es us → RlA g ms H (ds ++ es) (vs ++ us)
  | _, _, _, _, .nil, s => s
  | _, _, _, _, .cons r t, s => .cons r (RlA.append t s)
theorem RlA.take : ∀ {ds : List D} {vs : List V} (n : Nat), RlA g ms H ds vs → RlA g ms H (ds.take n) (vs.take n)
  | _, _, 0, _ => .nil
  | _, _, _ + 1, .nil => .nil
  | _, _, n + 1, .cons r t => .cons r (RlA.take n t)
theorem RlA.drop : ∀ {ds : List D} {vs : List V} (n : Nat), RlA g ms H ds vs → RlA g ms H (ds.drop n) (vs.drop n)
  | _, _, 0, r => r
  | _, _, _ + 1, .nil => .nil
  | _, _, n + 1, .cons _ t => RlA.drop n t
theorem RlA.set {d : D} {v : V} (r : Rl g ms H d v) : ∀ {ds : List D} {vs : List V} (i : Nat), RlA g ms H ds vs → RlA g ms H (ds.set i d) (vs.set i v)
  | _, _, _, .nil => .nil
  | _, _, 0, .cons _ t => .cons r t
  | _, _, i + 1, .cons q t => .cons q (RlA.set r i t)
theorem RlA.eraseIdx : ∀ {ds : List D} {vs : List V} (i : Nat), RlA g ms H ds vs → RlA g ms H (ds.eraseIdx i) (vs.eraseIdx i)
  | _, _, _, .nil => .nil
  | _, _, 0, .cons _ t => t
  | _, _, i + 1, .cons q t => .cons q (RlA.eraseIdx i t)
theorem RlA.reverse {ds : List D} {vs : List V} (r : RlA g ms H ds vs) : RlA g ms H ds.reverse vs.reverse := by
  induction r using RlA.rec (motive_1 := fun _ _ _ => True) with
  | nil => exact .nil
  | cons h a _ ih =>
    rw [List.reverse_cons, List.reverse_cons]
    exact ih.append (.cons h .nil)
  | _ => trivial
theorem RlA.one {d : D} {v : V} (r : Rl g ms H d v) : RlA g ms H [d] [v] := .cons r .nil
end

/-! ### the store -/
def RKv (g : Gs) (ms : List Addr) (H : Hp) {κ : Type} : List (κ × D) → List (κ × V) → Prop := Paired fun (p : κ × D) (q : κ × V) => p.1 = q.1 ∧ Rl g ms H p.2 q.2
def Ro (g : Gs) (ms : List Addr) (H : Hp) (a : Addr) : O → Prop
  | .lst ds => ∃ vs, H a = some (.lst vs) ∧ RlA g ms H ds vs
  | .dK kvs => ∃ vs, H a = some (.dK vs) ∧ RKv g ms H kvs vs
  | .dT kvs => ∃ vs, H a = some (.dT vs) ∧ RKv g ms H kvs vs
structure Rs (g : Gs) (ms : List Addr) (H : Hp) (st : Sto) : Prop where
  len : ms.length = st.length
  nd : ms.Nodup
  at_ : ∀ (n : Nat) (o : O) (a : Addr), st[n]? = some o → ms[n]? = some a → Ro g ms H a o
  tabs : LamX.Tabs g.T H
/-- what stood stands -/
structure Fw (ms : List Addr) (H : Hp) (ms' : List Addr) (H' : Hp) : Prop where
  ms : ms <+: ms'
  le : Le H H'
theorem Fw.refl (ms : List Addr) (H : Hp) : Fw ms H ms H := ⟨List.prefix_rfl, Le.refl H⟩
theorem Fw.trans {ms ms1 ms2 : List Addr} {H H1 H2 : Hp} (a : Fw ms H ms1 H1) (b : Fw ms1 H1 ms2 H2) : Fw ms H ms2 H2 := ⟨a.ms.trans b.ms, a.le.trans b.le⟩
theorem Fw.rl {g : Gs} {ms ms' : List Addr} {H H' : Hp} (f : Fw ms H ms' H') {d : D} {v : V} (r : Rl g ms H d v) : Rl g ms' H' d v := r.mono f.ms f.le
theorem Fw.rlA {g : Gs} {ms ms' : List Addr} {H H' : Hp} (f : Fw ms H ms' H') {d : List D} {v : List V} (r : RlA g ms H d v) : RlA g ms' H' d v := r.mono f.ms f.le
theorem RKv.mono {g : Gs} {ms ms' : List Addr} {H H' : Hp} (f : Fw ms H ms' H') {κ : Type} {ks : List (κ × D)} {vs : List (κ × V)} (r : RKv g ms H ks vs) : RKv g ms' H' ks vs := Paired.mapP r fun _ _ z => ⟨z.1, f.rl z.2⟩
/-- the slots -/
structure Re (g : Gs) (ms : List Addr) (H : Hp) (env : Env3) (σ : L2.St) : Prop where
  len : env.length = σ.length
  at_ : ∀ (i : Nat) (d : D), env[i]? = some (some d) → ∃ v : V, σ[i]? = some (some v) ∧ Rl g ms H d v
  lam : ∀ l, g.lam = some l → σ[l.i]? = some (some (.ref l.a)) ∧ H l.a = some (FnOE l.a l.F l.e) ∧ H l.F.c = some (LamX.CodeO l.F.c l.F.qual) ∧ RlA g ms H l.cs l.ws
theorem Re.mono {g : Gs} {ms ms' : List Addr} {H H' : Hp} (f : Fw ms H ms' H') {env : Env3} {σ : L2.St} (r : Re g ms H env σ) : Re g ms' H' env σ := ⟨r.len, fun i d e => by
  obtain ⟨v, h1, h2⟩ := r.at_ i d e
  exact ⟨v, h1, f.rl h2⟩, fun l e => by
  obtain ⟨h1, h2, h3, h4⟩ := r.lam l e
  exact ⟨h1, f.le.fx _ _ h2 trivial, f.le.fx _ _ h3 trivial, f.rlA h4⟩⟩
theorem Re.set {g : Gs} {ms : List Addr} {H : Hp} {env : Env3} {σ : L2.St} (r : Re g ms H env σ) (i : Nat) [nl : NL g i] {d : D} {v : V} (q : Rl g ms H d v) : Re g ms H (env.set i (some d)) (σ.set i (some v)) := ⟨by simp [r.len], fun j e h => by
  by_cases hj : i = j
  · subst hj
    by_cases hl : i < env.length
    · rw [List.getElem?_set_self hl] at h
      cases h
      exact ⟨v, List.getElem?_set_self (by rw [← r.len]; exact hl), q⟩
    · rw [List.getElem?_eq_none (by simpa using hl)] at h
      cases h
  · rw [List.getElem?_set_ne hj] at h
    obtain ⟨u, h1, h2⟩ := r.at_ j e h
    exact ⟨u, by rw [List.getElem?_set_ne hj]; exact h1, h2⟩, fun l e => by
  obtain ⟨h1, h2, h3⟩ := r.lam l e
  exact ⟨by rw [List.getElem?_set_ne fun z => nl.ne l e z.symm]; exact h1, h2, h3⟩⟩

/-! ### steps of the abstract heap -/
section
variable {g : Gs} {ms : List Addr} {H : Hp} {st : Sto}
theorem Ro.mono {ms' : List Addr} {H' : Hp} (f : Fw ms H ms' H') {a : Addr} {o : O} (e : H' a = H a) (r : Ro g ms H a o) : Ro g ms' H' a o := by
  cases o with
  | lst ds =>
    obtain ⟨vs, h1, h2⟩ := r
    exact ⟨vs, e.trans h1, f.rlA h2⟩
  | dK kvs =>
    obtain ⟨vs, h1, h2⟩ := r
    exact ⟨vs, e.trans h1, h2.mono f⟩
  | dT kvs =>
    obtain ⟨vs, h1, h2⟩ := r
    exact ⟨vs, e.trans h1, h2.mono f⟩
theorem Ro.some {a : Addr} {o : O} (r : Ro g ms H a o) : ∃ u, H a = some u ∧ ¬ Fx u ∧ (∀ ps, u ≠ .tbl ps) ∧ Mut (some u) := by
  cases o with
  | lst ds =>
    obtain ⟨vs, h1, h2⟩ := r
    exact ⟨_, h1, id, fun _ z => (by cases z), trivial⟩
  | dK kvs =>
    obtain ⟨vs, h1, h2⟩ := r
    exact ⟨_, h1, id, fun _ z => (by cases z), trivial⟩
  | dT kvs =>
    obtain ⟨vs, h1, h2⟩ := r
    exact ⟨_, h1, id, fun _ z => (by cases z), trivial⟩
theorem tabs_upd {T : List (Addr × Str)} {p : Addr} {o : HO} (t : LamX.Tabs T H) (h : H p = none ∨ ∃ u, H p = some u ∧ ¬ Fx u ∧ ∀ ps, u ≠ .tbl ps) : LamX.Tabs T (upd H p o) := fun q hq => by
  obtain ⟨ps, h1, h2, h3⟩ := t q hq
  have ne : ∀ b u, H b = some u → (Fx u ∨ ∃ ps, u = .tbl ps) → b ≠ p := fun b u e z x => by
    subst x
    rcases h with h | ⟨y, h, n1, n2⟩
    · rw [h] at e
      cases e
    · rw [h] at e
      cases e
      rcases z with z | ⟨ps, z⟩
      · exact n1 z
      · exact n2 ps z
  refine ⟨ps, by rw [upd_ne (ne _ _ h1 (.inr ⟨ps, rfl⟩))]; exact h1, h2, fun pos cv hc => ?_⟩
  obtain ⟨c, e1, e2⟩ := h3 pos cv hc
  exact ⟨c, e1, by rw [upd_ne (ne _ _ e2 (.inl trivial))]; exact e2⟩
/-- a fixed thing is laid anew -/
theorem Rs.fresh {p : Addr} {o : HO} (r : Rs g ms H st) (h : H p = none) : Fw ms H ms (upd H p o) ∧ Rs g ms (upd H p o) st := by
  have f : Fw ms H ms (upd H p o) := ⟨List.prefix_rfl, Le.new h⟩
  refine ⟨f, r.len, r.nd, fun n u a e1 e2 => ?_, tabs_upd r.tabs (.inl h)⟩
  have q := r.at_ n u a e1 e2
  obtain ⟨z, hz, _⟩ := q.some
  exact q.mono f (upd_ne (ne_of_none hz h))
/-- a thing of the store is laid anew -/
theorem Rs.alloc {p : Addr} {o : HO} {u : O} (r : Rs g ms H st) (h : H p = none) (q : ∀ {ms' H'}, Fw ms H ms' H' → H' p = some o → Ro g ms' H' p u) : Fw ms H (ms ++ [p]) (upd H p o) ∧ Rs g (ms ++ [p]) (upd H p o) (st ++ [u]) ∧ Rl g (ms ++ [p]) (upd H p o) (.loc st.length) (.ref p) := by
  have f : Fw ms H (ms ++ [p]) (upd H p o) := ⟨List.prefix_append _ _, Le.new h⟩
  have pn : p ∉ ms := fun z => by
    obtain ⟨n, hn, e⟩ := List.mem_iff_getElem.mp z
    have hl : n < st.length := by rw [← r.len]; exact hn
    obtain ⟨y, hy, _⟩ := (r.at_ n st[n] p (List.getElem?_eq_getElem hl) (by rw [List.getElem?_eq_getElem hn, e])).some
    rw [h] at hy
    cases hy
  refine ⟨f, ⟨by simp [r.len], ?_, fun n v a e1 e2 => ?_, tabs_upd r.tabs (.inl h)⟩, .loc (by rw [← r.len]; simp)⟩
  · rw [List.nodup_append]
    exact ⟨r.nd, by simp, fun a ha b hb => by simp at hb; subst hb; exact fun z => pn (z ▸ ha)⟩
  · by_cases hn : n < st.length
    · rw [List.getElem?_append_left hn] at e1
      rw [List.getElem?_append_left (by rw [r.len]; exact hn)] at e2
      have z := r.at_ n v a e1 e2
      obtain ⟨y, hy, _⟩ := z.some
      exact z.mono f (upd_ne (ne_of_none hy h))
    · have hn' : st.length ≤ n := Nat.le_of_not_lt hn
      rw [List.getElem?_append_right hn'] at e1
      rw [List.getElem?_append_right (by rw [r.len]; exact hn'), r.len] at e2
      cases k : n - st.length with
      | zero =>
        rw [k] at e1 e2
        simp at e1 e2
        subst e1 e2
        exact q f upd_same
      | succ m =>
        rw [k] at e1
        simp at e1
/-- a thing of the store is written -/
theorem Rs.put {n : Nat} {p : Addr} {o : HO} {u0 u : O} (r : Rs g ms H st) (e0 : st[n]? = some u0) (hp : ms[n]? = some p) (q : ∀ {ms' H'}, Fw ms H ms' H' → H' p = some o → Ro g ms' H' p u) : Fw ms H ms (upd H p o) ∧ Rs g ms (upd H p o) (st.set n u) := by
  obtain ⟨y, hy, ny, nt, _⟩ := (r.at_ n u0 p e0 hp).some
  have f : Fw ms H ms (upd H p o) := ⟨List.prefix_rfl, Le.put hy ny⟩
  refine ⟨f, by simp [r.len], r.nd, fun m v a e1 e2 => ?_, tabs_upd r.tabs (.inr ⟨y, hy, ny, nt⟩)⟩
  by_cases hm : n = m
  · subst hm
    rw [List.getElem?_set_self (List.getElem?_eq_some_iff.mp e0).1] at e1
    cases e1
    rw [hp] at e2
    cases e2
    exact q f upd_same
  · rw [List.getElem?_set_ne hm] at e1
    have z := r.at_ m v a e1 e2
    refine z.mono f (upd_ne fun x => hm ?_)
    subst x
    obtain ⟨h1, k1⟩ := List.getElem?_eq_some_iff.mp hp
    obtain ⟨h2, k2⟩ := List.getElem?_eq_some_iff.mp e2
    exact (List.getElem_inj r.nd).mp (k1.trans k2.symm)
end

/-! ### readings that follow a function -/
inductive R3 (α : Type) where
  | ok (a : α)
  | er (c : Nat)
abbrev F3 (α : Type) := Env3 → Sto → Option (R3 α × Sto)
def bnd {α β : Type} (f : F3 α) (k : α → F3 β) : F3 β := fun env st => match f env st with
  | some (.ok a, st1) => k a env st1
  | some (.er c, st1) => some (.er c, st1)
  | none => none
/-- the end of a reading, by what the function gives -/
def Out (g : Gs) (E : XK) {α β : Type} (rel : List Addr → Hp → α → β → Prop) (r : R3 α) (Q : β → Hp → Prop) (ms' : List Addr) (H' : Hp) : Prop := match r with
  | .ok a => ∀ b, rel ms' H' a b → Q b H'
  | .er c => E (.ref (g.cl c)) none H'
def Rd (g : Gs) (E : XK) {α β : Type} (rel : List Addr → Hp → α → β → Prop) (t : L2.St → Hp → (β → Hp → Prop) → Prop) (f : F3 α) : Prop :=
  ∀ env st r st', f env st = some (r, st') → ∀ ms σ H, Rs g ms H st → Re g ms H env σ → ∀ Q : β → Hp → Prop,
    (∀ ms' H', Fw ms H ms' H' → Rs g ms' H' st' → Out g E rel r Q ms' H') → t σ H Q
/-- one after another -/
theorem Rd.bind {g : Gs} {E : XK} {α β γ : Type} {rel : List Addr → Hp → α → β → Prop} {t : L2.St → Hp → (β → Hp → Prop) → Prop} {f : F3 α} {k : α → F3 γ} {env : Env3} {st st' : Sto} {r : R3 γ} {ms : List Addr} {σ : L2.St} {H : Hp} {Q : β → Hp → Prop}
    (h : Rd g E rel t f) (e : bnd f k env st = some (r, st')) (rs : Rs g ms H st) (re : Re g ms H env σ)
    (ho : ∀ a st1 ms1 H1, Fw ms H ms1 H1 → Rs g ms1 H1 st1 → Re g ms1 H1 env σ → k a env st1 = some (r, st') → ∀ b, rel ms1 H1 a b → Q b H1)
    (he : ∀ c ms1 H1, r = .er c → Fw ms H ms1 H1 → Rs g ms1 H1 st' → E (.ref (g.cl c)) none H1) : t σ H Q := by
  unfold bnd at e
  split at e
  · rename_i a st1 hf
    exact h env st (.ok a) st1 hf ms σ H rs re Q fun ms1 H1 fw rs1 b hb => ho a st1 ms1 H1 fw rs1 (re.mono fw) e b hb
  · rename_i c st1 hf
    cases e
    exact h env st (.er c) _ hf ms σ H rs re Q fun ms1 H1 fw rs1 => he c ms1 H1 rfl fw rs1
  · cases e
end S3

set_option maxHeartbeats 2000000
/-! S3B: contexts; expressions that follow a function: names, constants, operators. -/
namespace S3
open PySem PySem.Spec PyProof.Rows L2

/-- what is known of a def's (or a block's) context -/
structure Cxt where
  g : Gs
  N : List Str
  sc : Scope
  k : Nat
  E : XK
  own : Str → Bool
  gd : Bool := false
  lam : Option (Addr × Str) := none
  hx : Cx → Prop := fun _ => True
structure OkX (c : Cxt) (X : Cx) : Prop where
  prog : X.prog = c.g.P
  w : X.w = c.g.w
  K : X.K = c.g.K
  mg : X.mg = c.g.mg
  base : X.base = c.g.base
  N : X.N = c.N
  sc : X.env.scope = c.sc
  calm : X.calm = true
  room : Room c.k X.A
  guards : c.gd = true → X.A.guards = some []
  lamb : ∀ u q, c.lam = some (u, q) → X.env.code = .ref u ∧ X.env.qual = q
  nd : c.N.Nodup
  fn : ∀ x, c.own x = true → X.fn x = true
  po : PassesOwn (model X.prog X.w) X.A X.env X.xe
  tk : Takes X (fun cls d _ H => c.E cls d H)
  hx : c.hx X

theorem OkX.pass {c : Cxt} {X : Cx} (o : OkX c X) : Passes (L2.CX X.prog X.w) X c.E := passes_call o.tk fun _ _ _ _ h => h
abbrev RelB (_ : List Addr) (_ : Hp) (a b : Bool) : Prop := a = b
def SimE (c : Cxt) (e : Expr) (f : F3 D) : Prop := ∃ t : TE, (∀ X, OkX c X → PE X e t) ∧ Rd c.g c.E (Rl c.g) t f
def SimT (c : Cxt) (e : Expr) (f : F3 Bool) : Prop := ∃ t : TT, (∀ X, OkX c X → PT X e t) ∧ Rd c.g c.E RelB t f
def SimA (c : Cxt) (es : List Expr) (f : F3 (List D)) : Prop := ∃ t : TA, (∀ X, OkX c X → PA X es t) ∧ Rd c.g c.E (RlA c.g) t f

/-! ### the functions -/
def ret3 {α : Type} (a : α) : F3 α := fun _ st => some (.ok a, st)
def fVar (i : Nat) : F3 D := fun env st => match env[i]? with
  | some (some d) => some (.ok d, st)
  | _ => none
/-- an operation that raises nothing -/
abbrev F1 (α β : Type) := α → Sto → Option (β × Sto)
def lift {α β : Type} (o : F1 α β) (a : α) : F3 β := fun _ st => match o a st with
  | some (b, st') => some (.ok b, st')
  | none => none
def fU (o : F1 D D) (fa : F3 D) : F3 D := bnd fa (lift o)
def fB (o : F1 (D × D) D) (fa fb : F3 D) : F3 D := bnd fa fun x => bnd fb fun y => lift o (x, y)
def fArgs (o : F1 (List D) D) (fa : F3 (List D)) : F3 D := bnd fa (lift o)
def fNil : F3 (List D) := ret3 []
def fCons (fa : F3 D) (fr : F3 (List D)) : F3 (List D) := bnd fa fun x => bnd fr fun xs => ret3 (x :: xs)

/-! ### soundness of an operation's rule -/
/-- r, a rule by values, follows o -/
def OpS (g : Gs) {α β V1 V2 : Type} (ra : List Addr → Hp → α → V1 → Prop) (rb : List Addr → Hp → β → V2 → Prop) (r : V1 → Hp → (V2 → Hp → Prop) → Prop) (o : F1 α β) : Prop :=
  ∀ x st z st', o x st = some (z, st') → ∀ ms H v, Rs g ms H st → ra ms H x v → ∀ Q : V2 → Hp → Prop,
    (∀ ms' H' u, Fw ms H ms' H' → Rs g ms' H' st' → rb ms' H' z u → Q u H') → r v H Q
abbrev Rl2 (g : Gs) (ms : List Addr) (H : Hp) (p : D × D) (q : V × V) : Prop := Rl g ms H p.1 q.1 ∧ Rl g ms H p.2 q.2
theorem out_er {g : Gs} {E : XK} {α β : Type} {rel : List Addr → Hp → α → β → Prop} {r : R3 α} {Q : β → Hp → Prop} {ms : List Addr} {H : Hp} {ms' : List Addr} {H' : Hp} {st' : Sto}
    (h : ∀ ms' H', Fw ms H ms' H' → Rs g ms' H' st' → Out g E rel r Q ms' H') {c : Nat} (e : r = .er c) (fw : Fw ms H ms' H') (rs : Rs g ms' H' st') : E (.ref (g.cl c)) none H' := by
  subst e
  exact h ms' H' fw rs
theorem Rd.op1 {g : Gs} {E : XK} {α β V1 V2 : Type} {ra : List Addr → Hp → α → V1 → Prop} {rb : List Addr → Hp → β → V2 → Prop} {ta : L2.St → Hp → (V1 → Hp → Prop) → Prop} {fa : F3 α} {r : V1 → Hp → (V2 → Hp → Prop) → Prop} {o : F1 α β}
    (ha : Rd g E ra ta fa) (ho : OpS g ra rb r o) : Rd g E rb (fun σ H Q => ta σ H fun x H1 => r x H1 Q) (bnd fa (lift o)) := by
  intro env st rr st' e ms σ H rs re Q h
  refine ha.bind e rs re (fun a st1 ms1 H1 fw rs1 re1 e1 b hb => ?_) fun c ms1 H1 er fw rs1 => out_er h er fw rs1
  unfold lift at e1
  split at e1
  · rename_i z st2 hz
    cases e1
    exact ho a st1 z st' hz ms1 H1 b rs1 hb Q fun ms2 H2 u fw2 rs2 hu => h ms2 H2 (fw.trans fw2) rs2 u hu
  · cases e1
theorem Rd.op2 {g : Gs} {E : XK} {ta tb : TE} {fa fb : F3 D} {r : R2} {o : F1 (D × D) D} (ha : Rd g E (Rl g) ta fa) (hb : Rd g E (Rl g) tb fb) (ho : OpS g (Rl2 g) (Rl g) (fun p H Q => r p.1 p.2 H Q) o) : Rd g E (Rl g) (tOp r ta tb) (fB o fa fb) := by
  intro env st rr st' e ms σ H rs re Q h
  refine ha.bind e rs re (fun a st1 ms1 H1 fw rs1 re1 e1 va hva => ?_) fun c ms1 H1 er fw rs1 => out_er h er fw rs1
  refine hb.bind e1 rs1 re1 (fun b st2 ms2 H2 fw2 rs2 re2 e2 vb hvb => ?_) fun c ms2 H2 er fw2 rs2 => out_er h er (fw.trans fw2) rs2
  unfold lift at e2
  split at e2
  · rename_i z st3 hz
    cases e2
    exact ho (a, b) st2 z st' hz ms2 H2 (va, vb) rs2 ⟨fw2.rl hva, hvb⟩ Q fun ms3 H3 u fw3 rs3 hu => h ms3 H3 ((fw.trans fw2).trans fw3) rs3 u hu
  · cases e2
/-- a value where nothing is done -/
theorem Rd.ret {g : Gs} {E : XK} {α β : Type} {rel : List Addr → Hp → α → β → Prop} {a : α} {b : β} (h : ∀ ms H, rel ms H a b) (hu : ∀ ms H b', rel ms H a b' → b' = b) : Rd g E rel (fun _ H Q => Q b H) (ret3 a) := by
  intro env st rr st' e ms σ H rs re Q hq
  cases e
  exact hq ms H (Fw.refl ms H) rs b (h ms H)

section
variable {c : Cxt} {a b e : Expr} {es : List Expr} {fa fb : F3 D} {pos : Pos}

/-! ### names, constants -/
def visB (sc : Scope) (x : Str) : Bool := match sc.names.lookup x with
  | some .local => true
  | some .cell => true
  | some .free => true
  | _ => false
theorem visB_ok {sc : Scope} {x : Str} (h : visB sc x = true) : Vis sc x := by
  unfold visB at h
  unfold Vis
  split at h <;> simp_all
theorem simE_var (i : Nat) {x : Str} (hN : c.N[i]? = some x) (hv : visB c.sc x = true) (hd : (x == ("__debug__" : Str)) = false := by decide +kernel) (hcd : (x == ("__classdict__" : Str)) = false := by decide +kernel) : SimE c (.Name x pos) (fVar i) := by
  refine ⟨tVar i, fun X o => pe_var (by rw [o.N]; exact hN) (by rw [o.sc]; exact visB_ok hv) hd hcd, ?_⟩
  intro env st r st' e ms σ H rs re Q h
  unfold fVar at e
  split at e
  · rename_i d hd'
    cases e
    obtain ⟨v, h1, h2⟩ := re.at_ i d hd'
    exact ⟨v, h1, h ms H (Fw.refl ms H) rs v h2⟩
  · cases e
theorem simE_int {i : Int} {j : Nat} : SimE c (.Constant (.int i) j pos) (ret3 (.int i)) :=
  ⟨tC (.int i), fun X o => pe_int, Rd.ret (fun _ _ => .int i) fun _ _ _ h => by cases h; rfl⟩
theorem simE_bl {i : Bool} {j : Nat} : SimE c (.Constant (.bool i) j pos) (ret3 (.bl i)) :=
  ⟨tC (.bl i), fun X o => pe_bl, Rd.ret (fun _ _ => .bl i) fun _ _ _ h => by cases h; rfl⟩
theorem simE_str {i : Str} {j : Nat} : SimE c (.Constant (.str i) j pos) (ret3 (.str i)) :=
  ⟨tC (.str i), fun X o => pe_str, Rd.ret (fun _ _ => .str i) fun _ _ _ h => by cases h; rfl⟩
theorem simE_non {j : Nat} : SimE c (.Constant .none j pos) (ret3 .non) :=
  ⟨tC .non, fun X o => pe_non, Rd.ret (fun _ _ => .non) fun _ _ _ h => by cases h; rfl⟩
/-- a global name -/
def glB (sc : Scope) (x : Str) : Bool := decide (sc.names.lookup x = some .globalImplicit) && !(x == ("__debug__" : Str))
theorem OkX.gl {X : Cx} (o : OkX c X) {x : Str} (h : glB c.sc x = true) : Gl X x := by
  unfold glB at h
  simp only [Bool.and_eq_true, decide_eq_true_eq] at h
  show X.env.scope.names.lookup x = _
  rw [o.sc]
  exact h.1
theorem glB_nd {sc : Scope} {x : Str} (h : glB sc x = true) : (x == ("__debug__" : Str)) = false := by
  unfold glB at h
  simp only [Bool.and_eq_true, Bool.not_eq_true'] at h
  exact h.2
/-- a module's constant, a def, a class, as a value -/
theorem simE_glob {x : Str} {d : D} {v : V} {u : Value} (hg : glB c.sc x = true) (hm : c.g.mg x = some u) (r : RelV v u) (hd : ∀ ms H, Rl c.g ms H d v) : SimE c (.Name x pos) (ret3 d) := by
  refine ⟨tC v, fun X o => pe_glob (o.gl hg) (by rw [o.mg]; exact hm) r (glB_nd hg), ?_⟩
  intro env st rr st' e ms σ H rs re Q hq
  cases e
  exact hq ms H (Fw.refl ms H) rs v (hd ms H)
theorem simE_ty {x : Str} {T : String} (hg : glB c.sc x = true) (hm : c.g.mg x = none) (hv : bootBuiltins x = some (.type T)) (hn : x ≠ "__name__" := by decide +kernel) : SimE c (.Name x pos) (ret3 (.ty T)) := by
  refine ⟨tC (.ty T), fun X o => pe_bltn (o.gl hg) (by rw [o.mg]; exact hm) hv rfl hn (glB_nd hg), ?_⟩
  intro env st rr st' e ms σ H rs re Q hq
  cases e
  exact hq ms H (Fw.refl ms H) rs _ (.ty T)

/-! ### operators -/
theorem simE_bin {op : Operator} {r : R2} {o : F1 (D × D) D} (hr : ∀ X, OkX c X → OpR X (binaryOp op) r) (ho : OpS c.g (Rl2 c.g) (Rl c.g) (fun p H Q => r p.1 p.2 H Q) o) (ha : SimE c a fa) (hb : SimE c b fb) : SimE c (.BinOp a op b pos) (fB o fa fb) := by
  obtain ⟨ta, pa, ra⟩ := ha
  obtain ⟨tb, pb, rb⟩ := hb
  exact ⟨tOp r ta tb, fun X ok => pe_op (hr X ok) (pa X ok) (pb X ok), ra.op2 rb ho⟩
theorem simE_cmp {op : CmpOp} {r : R2} {o : F1 (D × D) D} (hr : ∀ X, OkX c X → OpR X (compareOp op) r) (ho : OpS c.g (Rl2 c.g) (Rl c.g) (fun p H Q => r p.1 p.2 H Q) o) (ha : SimE c a fa) (hb : SimE c b fb) (hm : behindInMarks op b = false) : SimE c (.Compare a [op] [b] pos) (fB o fa fb) := by
  obtain ⟨ta, pa, ra⟩ := ha
  obtain ⟨tb, pb, rb⟩ := hb
  exact ⟨tOp r ta tb, fun X ok => pe_cmpR (hr X ok) (pa X ok) (pb X ok) hm, ra.op2 rb ho⟩
/-- a value that is a bool -/
def asB (d : D) : F3 Bool := fun _ st => match d with
  | .bl b => some (.ok b, st)
  | _ => none
theorem Rd.test {g : Gs} {E : XK} {t : TE} {f : F3 D} (h : Rd g E (Rl g) t f) : Rd g E RelB (tTest t) (bnd f asB) := by
  intro env st rr st' e ms σ H rs re Q hq
  refine h.bind e rs re (fun a st1 ms1 H1 fw rs1 re1 e1 v hv => ?_) fun c ms1 H1 er fw rs1 => out_er hq er fw rs1
  unfold asB at e1
  split at e1
  · cases e1
    cases hv
    exact ⟨_, rfl, hq ms1 H1 fw rs1 _ rfl⟩
  · cases e1
theorem simT_cmp {op : CmpOp} {r : R2} {o : F1 (D × D) D} (hr : ∀ X, OkX c X → OpR X (compareOp op) r) (ho : OpS c.g (Rl2 c.g) (Rl c.g) (fun p H Q => r p.1 p.2 H Q) o) (ha : SimE c a fa) (hb : SimE c b fb) (hm : behindInMarks op b = false) : SimT c (.Compare a [op] [b] pos) (bnd (fB o fa fb) asB) := by
  obtain ⟨ta, pa, ra⟩ := ha
  obtain ⟨tb, pb, rb⟩ := hb
  exact ⟨tTest (tOp r ta tb), fun X ok => pt_cmpR (hr X ok) (pa X ok) (pb X ok) hm, (ra.op2 rb ho).test⟩

/-! ### lists of expressions, displays -/
theorem simA_nil : SimA c [] fNil := ⟨tNil, fun X o => pa_nil, Rd.ret (fun _ _ => .nil) fun _ _ _ h => by cases h; rfl⟩
def plainE (e : Expr) : Bool := match e with
  | .Starred _ _ => false
  | _ => true
theorem starEach_plain {e : Expr} {es : List Expr} {env : Env} (h : plainE e = true) : starEach (e :: es) env = (false, eval e env) :: starEach es env := by
  unfold plainE at h
  split at h
  · cases h
  · cases e <;> first | rfl | (rename_i x; exact absurd rfl (x _ _))
theorem Rd.cons {g : Gs} {E : XK} {te : TE} {ta : TA} {fe : F3 D} {fr : F3 (List D)} (h : Rd g E (Rl g) te fe) (h2 : Rd g E (RlA g) ta fr) : Rd g E (RlA g) (tCons te ta) (fCons fe fr) := by
  intro env st rr st' e ms σ H rs re Q hq
  refine h.bind e rs re (fun x st1 ms1 H1 fw rs1 re1 e1 v hv => ?_) fun c ms1 H1 er fw rs1 => out_er hq er fw rs1
  refine h2.bind e1 rs1 re1 (fun y st2 ms2 H2 fw2 rs2 re2 e2 us hus => ?_) fun c ms2 H2 er fw2 rs2 => out_er hq er (fw.trans fw2) rs2
  cases e2
  exact hq ms2 H2 (fw.trans fw2) rs2 (v :: us) (.cons (fw2.rl hv) hus)
theorem simA_cons {fr : F3 (List D)} (he : SimE c e fa) (hr : SimA c es fr) (hp : plainE e = true := by rfl) : SimA c (e :: es) (fCons fa fr) := by
  obtain ⟨te, pe, re⟩ := he
  obtain ⟨ta, pa, ra⟩ := hr
  exact ⟨tCons te ta, fun X o => pa_cons (pe X o) (pa X o) (starEach_plain hp), re.cons ra⟩
def oTup : F1 (List D) D := fun ds st => if ds.length ≤ sizeLine then some (.tup ds, st) else none
def oLst : F1 (List D) D := fun ds st => if ds.length ≤ sizeLine then some (.loc st.length, st ++ [.lst ds]) else none
theorem opS_tup {g : Gs} : OpS g (RlA g) (Rl g) (fun xs H Q => xs.length ≤ sizeLine ∧ ∀ p, H p = none → Q (.ref p) (upd H p (.tup xs))) oTup := by
  intro ds st z st' e ms H vs rs hv Q h
  unfold oTup at e
  split at e
  · rename_i hl
    cases e
    refine ⟨by rw [← hv.length]; exact hl, fun p hp => ?_⟩
    obtain ⟨fw, rs2⟩ := rs.fresh (o := .tup vs) hp
    exact h ms _ _ fw rs2 (.tup upd_same (fw.rlA hv))
  · cases e
theorem opS_lst {g : Gs} : OpS g (RlA g) (Rl g) (fun xs H Q => xs.length ≤ sizeLine ∧ ∀ p, H p = none → Q (.ref p) (upd H p (.lst xs))) oLst := by
  intro ds st z st' e ms H vs rs hv Q h
  unfold oLst at e
  split at e
  · rename_i hl
    cases e
    refine ⟨by rw [← hv.length]; exact hl, fun p hp => ?_⟩
    obtain ⟨fw, rs2, q⟩ := rs.alloc (o := .lst vs) (u := .lst ds) hp fun f e => ⟨vs, e, f.rlA hv⟩
    exact h _ _ _ fw rs2 q
  · cases e
theorem simE_tup {fr : F3 (List D)} {x1} (h : SimA c es fr) : SimE c (.Tuple es x1 pos) (fArgs oTup fr) := by
  obtain ⟨ta, pa, ra⟩ := h
  exact ⟨tTup ta, fun X o => pe_tup (pa X o), ra.op1 opS_tup⟩
theorem simE_lst {fr : F3 (List D)} (h : SimA c es fr) : SimE c (.List es pos) (fArgs oLst fr) := by
  obtain ⟨ta, pa, ra⟩ := h
  exact ⟨tLst ta, fun X o => pe_lst (pa X o), ra.op1 opS_lst⟩
end
end S3

set_option maxHeartbeats 2000000
/-! S3C: what operators do, on data. -/
namespace S3
open PySem PySem.Spec PyProof.Rows L2

/-! ### reading sequences, scalars, nested data -/
def seqL (st : Sto) : D → Option (List D)
  | .lcon ds => some ds
  | .loc n => match st[n]? with
    | some (.lst ds) => some ds
    | _ => none
  | _ => none
def seqT : D → Option (List D)
  | .tup ds => some ds
  | .tcon ds => some ds
  | _ => none
def seqA (st : Sto) (d : D) : Option (List D) := match seqT d with
  | some ds => some ds
  | none => seqL st d
theorem seqL_ok {g : Gs} {ms : List Addr} {H : Hp} {st : Sto} {d : D} {ds : List D} {v : V} (rs : Rs g ms H st) (r : Rl g ms H d v) (h : seqL st d = some ds) : ∃ p vs, v = .ref p ∧ SqL g.K H p vs ∧ RlA g ms H ds vs := by
  unfold seqL at h
  split at h
  · cases h
    cases r with
    | lcon h a => exact ⟨_, _, rfl, h H fun _ _ _ e => e, a⟩
  · split at h
    · rename_i e
      cases h
      cases r with
      | loc hm =>
        obtain ⟨vs, h1, h2⟩ := rs.at_ _ _ _ e hm
        exact ⟨_, vs, rfl, .inl (.inl h1), h2⟩
    · cases h
  · cases h
theorem seqT_ok {g : Gs} {ms : List Addr} {H : Hp} {d : D} {ds : List D} {v : V} (r : Rl g ms H d v) (h : seqT d = some ds) : ∃ p vs, v = .ref p ∧ SqT g.K H p vs ∧ RlA g ms H ds vs := by
  unfold seqT at h
  split at h
  · cases h
    cases r with
    | tup h a => exact ⟨_, _, rfl, .inl (.inl h), a⟩
  · cases h
    cases r with
    | tcon h a => exact ⟨_, _, rfl, (h H).1, a⟩
  · cases h
theorem seqA_ok {g : Gs} {ms : List Addr} {H : Hp} {st : Sto} {d : D} {ds : List D} {v : V} (rs : Rs g ms H st) (r : Rl g ms H d v) (h : seqA st d = some ds) : ∃ p vs, v = .ref p ∧ (SqL g.K H p vs ∨ SqT g.K H p vs) ∧ RlA g ms H ds vs := by
  unfold seqA at h
  split at h
  · rename_i e
    cases h
    obtain ⟨p, vs, h1, h2, h3⟩ := seqT_ok r e
    exact ⟨p, vs, h1, .inr h2, h3⟩
  · obtain ⟨p, vs, h1, h2, h3⟩ := seqL_ok rs r h
    exact ⟨p, vs, h1, .inl h2, h3⟩
/-- a list of the store -/
def ownL (st : Sto) : D → Option (Nat × List D)
  | .loc n => match st[n]? with
    | some (.lst ds) => some (n, ds)
    | _ => none
  | _ => none
theorem ownL_ok {g : Gs} {ms : List Addr} {H : Hp} {st : Sto} {d : D} {n : Nat} {ds : List D} {v : V} (rs : Rs g ms H st) (r : Rl g ms H d v) (h : ownL st d = some (n, ds)) : st[n]? = some (.lst ds) ∧ ∃ p vs, v = .ref p ∧ ms[n]? = some p ∧ H p = some (.lst vs) ∧ RlA g ms H ds vs := by
  unfold ownL at h
  split at h
  · split at h
    · rename_i e
      cases h
      cases r with
      | loc hm =>
        obtain ⟨vs, h1, h2⟩ := rs.at_ _ _ _ e hm
        exact ⟨e, _, vs, rfl, hm, h1, h2⟩
    · cases h
  · cases h
/-- scalars -/
def scl : D → Option V
  | .non => some .non
  | .bl b => some (.bl b)
  | .int i => some (.int i)
  | .str x => some (.str x)
  | _ => none
theorem scl_ok {g : Gs} {ms : List Addr} {H : Hp} {d : D} {u v : V} (r : Rl g ms H d v) (h : scl d = some u) : v = u ∧ flatV u = true := by
  unfold scl at h
  split at h <;> first | (cases h; cases r; exact ⟨rfl, rfl⟩) | cases h
def sclA : List D → Option (List V)
  | [] => some []
  | d :: r => match scl d, sclA r with
    | some u, some us => some (u :: us)
    | _, _ => none
theorem sclA_ok {g : Gs} {ms : List Addr} {H : Hp} : ∀ {ds : List D} {us vs : List V}, RlA g ms H ds vs → sclA ds = some us → vs = us ∧ us.all flatV = true
  | [], us, vs, r, h => by
    cases r
    unfold sclA at h
    cases h
    exact ⟨rfl, rfl⟩
  | d :: ds, us, vs, r, h => by
    cases r with
    | cons r1 r2 =>
      unfold sclA at h
      split at h
      · rename_i u us' e1 e2
        cases h
        obtain ⟨h1, h2⟩ := scl_ok r1 e1
        obtain ⟨h3, h4⟩ := sclA_ok r2 e2
        subst h1 h3
        exact ⟨rfl, by simp [h2, h4]⟩
      · cases h
def mapO {α β : Type} (f : α → Option β) : List α → Option (List β)
  | [] => some []
  | a :: r => match f a, mapO f r with
    | some b, some bs => some (b :: bs)
    | _, _ => none
/-- nested data -/
def dat (st : Sto) : Nat → D → Option PyData
  | 0, _ => none
  | _ + 1, .non => some .none
  | _ + 1, .bl b => some (.bool b)
  | _ + 1, .int i => some (.int i)
  | _ + 1, .str x => some (.str x)
  | n + 1, .tup ds => match mapO (dat st n) ds with
    | some xs => some (.tuple xs)
    | none => none
  | n + 1, .tcon ds => match mapO (dat st n) ds with
    | some xs => some (.tuple xs)
    | none => none
  | n + 1, .lcon ds => match mapO (dat st n) ds with
    | some xs => some (.list xs)
    | none => none
  | n + 1, .loc k => match st[k]? with
    | some (.lst ds) => match mapO (dat st n) ds with
      | some xs => some (.list xs)
      | none => none
    | _ => none
  | _ + 1, _ => none
theorem datA_ok {g : Gs} {ms : List Addr} {H : Hp} {f : D → Option PyData} (hf : ∀ d x v, f d = some x → Rl g ms H d v → Dp g.K H v x) : ∀ {ds : List D} {xs : List PyData} {vs : List V}, mapO f ds = some xs → RlA g ms H ds vs → DpAll g.K H vs xs
  | [], xs, vs, h, r => by
    cases r
    unfold mapO at h
    cases h
    exact .nil
  | d :: ds, xs, vs, h, r => by
    cases r with
    | cons r1 r2 =>
      unfold mapO at h
      split at h
      · rename_i e1 e2
        cases h
        exact .cons (hf _ _ _ e1 r1) (datA_ok hf e2 r2)
      · cases h
theorem dat_ok {g : Gs} {ms : List Addr} {H : Hp} {st : Sto} (rs : Rs g ms H st) : ∀ (n : Nat) (d : D) (x : PyData) (v : V), dat st n d = some x → Rl g ms H d v → Dp g.K H v x
  | 0, d, x, v, h, r => by
    unfold dat at h
    cases h
  | n + 1, d, x, v, h, r => by
    have ih := dat_ok rs n
    cases d with
    | non => cases r; simp only [dat, Option.some.injEq] at h; subst h; exact .non
    | bl b => cases r; simp only [dat, Option.some.injEq] at h; subst h; exact .bl b
    | int b => cases r; simp only [dat, Option.some.injEq] at h; subst h; exact .int b
    | str b => cases r; simp only [dat, Option.some.injEq] at h; subst h; exact .str b
    | tup ds =>
      simp only [dat] at h
      split at h
      · rename_i e
        cases h
        cases r with
        | tup hp a => exact .tup (.inl (.inl hp)) (datA_ok (fun d x v => ih d x v) e a)
      · cases h
    | tcon ds =>
      simp only [dat] at h
      split at h
      · rename_i e
        cases h
        cases r with
        | tcon hp a => exact .tup (hp H).1 (datA_ok (fun d x v => ih d x v) e a)
      · cases h
    | lcon ds =>
      simp only [dat] at h
      split at h
      · rename_i e
        cases h
        cases r with
        | lcon hp a => exact .lst (hp H fun _ _ _ e => e) (datA_ok (fun d x v => ih d x v) e a)
      · cases h
    | loc k =>
      simp only [dat] at h
      split at h
      · rename_i ek
        split at h
        · rename_i e
          cases h
          cases r with
          | loc hm =>
            obtain ⟨vs, h1, h2⟩ := rs.at_ _ _ _ ek hm
            exact .lst (.inl (.inl h1)) (datA_ok (fun d x v => ih d x v) e h2)
        · cases h
      · cases h
    | exn k => simp only [dat] at h; cases h
    | fn k => simp only [dat] at h; cases h
    | cl k => simp only [dat] at h; cases h
    | ty k => simp only [dat] at h; cases h
def dat64 (st : Sto) (d : D) : Option PyData := match dat st 66 d with
  | some x => if SeqAt.shaped x = true then some x else none
  | none => none
theorem dat64_ok {g : Gs} {ms : List Addr} {H : Hp} {st : Sto} (rs : Rs g ms H st) {d : D} {x : PyData} {v : V} (h : dat64 st d = some x) (r : Rl g ms H d v) : Dp g.K H v x ∧ SeqAt.shaped x = true := by
  unfold dat64 at h
  split at h
  · rename_i e
    split at h
    · rename_i hs
      cases h
      exact ⟨dat_ok rs _ _ _ _ e r, hs⟩
    · cases h
  · cases h

/-! ### operators -/
/-- a plain value comes back: nothing is stored -/
theorem q_here {g : Gs} {st : Sto} {ms : List Addr} {H : Hp} {z : D} {Q : VK} (rs : Rs g ms H st) (h : ∀ ms' H' u, Fw ms H ms' H' → Rs g ms' H' st → Rl g ms' H' z u → Q u H') {u : V} (r : Rl g ms H z u) : Q u H := h ms H u (Fw.refl ms H) rs r
def oAdd : F1 (D × D) D := fun p st => match p with
  | (.int i, .int j) => some (.int (i + j), st)
  | (.str i, .str j) => if i.length + j.length ≤ sizeLine then some (.str (i ++ j), st) else none
  | (.tup xs, .tup ys) => if xs.length + ys.length ≤ sizeLine then some (.tup (xs ++ ys), st) else none
  | (x, y) => match ownL st x, ownL st y with
    | some (_, xs), some (_, ys) => if xs.length + ys.length ≤ sizeLine then some (.loc st.length, st ++ [.lst (xs ++ ys)]) else none
    | _, _ => none
def rAddA (K : PySem.W.Frag) : R2 := fun x y H Q => ((rI0 fun i j => .int (i + j)) x y H Q ∨ (∃ i j, x = .str i ∧ y = .str j ∧ i.length + j.length ≤ sizeLine ∧ Q (.str (i ++ j)) H)) ∨ (rCatA K x y H Q ∨ rCat x y H Q)
theorem op_addA {X : Cx} : OpR X (binaryOp .Add) (rAddA X.K) := OpR.or (OpR.or op_add op_add_str) (OpR.or op_catA op_cat)
theorem opS_add {g : Gs} : OpS g (Rl2 g) (Rl g) (fun p H Q => rAddA g.K p.1 p.2 H Q) oAdd := by
  rintro ⟨x, y⟩ st z st' e ms H ⟨vx, vy⟩ rs ⟨hx, hy⟩ Q h
  unfold oAdd at e
  split at e
  · rename_i h0
    cases h0
    cases e
    cases hx
    cases hy
    exact .inl (.inl ⟨_, _, rfl, rfl, q_here rs h (.int _)⟩)
  · rename_i h0
    cases h0
    split at e
    · rename_i hl
      cases e
      cases hx
      cases hy
      exact .inl (.inr ⟨_, _, rfl, rfl, hl, q_here rs h (.str _)⟩)
    · cases e
  · rename_i xs ys h0
    cases h0
    split at e
    · rename_i hl
      cases e
      cases hx with
      | tup hp ha =>
        cases hy with
        | tup hq hb =>
          rename_i p us q ws
          refine .inr (.inl ⟨p, q, us, ws, rfl, rfl, .inl (.inl hp), .inl (.inl hq), by rw [← ha.length, ← hb.length]; exact hl, fun e => ?_, fun e e2 => ?_, fun e e2 b hb' => ?_⟩)
          · subst e
            cases ha
            exact q_here rs h (.tup hq hb)
          · subst e2
            cases hb
            refine q_here rs h ?_
            rw [List.append_nil]
            exact .tup hp ha
          · obtain ⟨fw, rs2⟩ := rs.fresh (o := .tup (us ++ ws)) hb'
            exact h _ _ _ fw rs2 (.tup upd_same ((fw.rlA ha).append (fw.rlA hb)))
    · cases e
  · rename_i h0
    cases h0
    split at e
    · rename_i e1 e2
      split at e
      · rename_i hl
        cases e
        obtain ⟨_, p, us, rfl, _, hp, ha⟩ := ownL_ok rs hx e1
        obtain ⟨_, q, ws, rfl, _, hq, hb⟩ := ownL_ok rs hy e2
        refine .inr (.inr ⟨p, q, us, ws, rfl, rfl, hp, hq, by rw [← ha.length, ← hb.length]; exact hl, fun b hb' => ?_⟩)
        obtain ⟨fw, rs2, r⟩ := rs.alloc (o := .lst (us ++ ws)) (u := .lst (_ ++ _)) hb' fun {ms' H'} f e => ⟨_, e, (f.rlA ha).append (f.rlA hb)⟩
        exact h _ _ _ fw rs2 r
      · cases e
    · cases e
/-- ints in, under a condition, a value out -/
def oInt (C : Int → Int → Bool) (f : Int → Int → D) : F1 (D × D) D := fun p st => match p with
  | (.int i, .int j) => if C i j = true then some (f i j, st) else none
  | _ => none
theorem opS_int {g : Gs} {C : Int → Int → Bool} {C' : Int → Int → Prop} {f : Int → Int → D} {f' : Int → Int → V} (hC : ∀ i j, C i j = true → C' i j) (hf : ∀ ms H i j, Rl g ms H (f i j) (f' i j)) : OpS g (Rl2 g) (Rl g) (fun p H Q => rI C' f' p.1 p.2 H Q) (oInt C f) := by
  rintro ⟨x, y⟩ st z st' e ms H ⟨vx, vy⟩ rs ⟨hx, hy⟩ Q h
  unfold oInt at e
  split at e
  · rename_i h0
    cases h0
    split at e
    · rename_i hc
      cases e
      cases hx
      cases hy
      exact ⟨_, _, rfl, rfl, hC _ _ hc, q_here rs h (hf _ _ _ _)⟩
    · cases e
  · cases e
theorem rI_of {C : Int → Int → Prop} {f : Int → Int → V} {x y : V} {H : Hp} {Q : VK} (h : rI0 f x y H Q) : rI (fun _ _ => True) f x y H Q := by
  obtain ⟨i, j, a, b, c⟩ := h
  exact ⟨i, j, a, b, trivial, c⟩
theorem opR_I0 {X : Cx} {F : Value → Value → Sem Value} {f : Int → Int → V} (h : OpR X F (rI0 f)) : OpR X F (rI (fun _ _ => True) f) := fun pins s σ H x y v u Q I rx ry hh => h pins s σ H x y v u Q I rx ry (by
  obtain ⟨i, j, a, b, _, d⟩ := hh
  exact ⟨i, j, a, b, d⟩)
abbrev yes2 : Int → Int → Bool := fun _ _ => true
def oSub : F1 (D × D) D := oInt yes2 fun i j => .int (i - j)
def cMul (i j : Int) : Bool := decide ((-(2 ^ 64) < i ∧ i < 2 ^ 64) ∨ (-(2 ^ 64) < j ∧ j < 2 ^ 64))
theorem cMul_ok {i j : Int} (h : cMul i j = true) : CMul i j := by
  unfold cMul at h
  have h2 := of_decide_eq_true h
  exact h2
def oMul : F1 (D × D) D := oInt cMul fun i j => .int (i * j)
def cDiv (_ j : Int) : Bool := decide (0 < j ∧ j < 1073741824)
theorem cDiv_ok {i j : Int} (h : cDiv i j = true) : CDiv i j := by
  unfold cDiv at h
  have h2 := of_decide_eq_true h
  exact h2
def oDiv : F1 (D × D) D := oInt cDiv fun i j => .int (i / j)
def cMod (_ j : Int) : Bool := decide (0 < j)
def oMod : F1 (D × D) D := oInt cMod fun i j => .int (i % j)
def cPow (i j : Int) : Bool := decide (0 ≤ j ∧ j ≤ 1000000 ∧ i.natAbs < 2 ^ 64)
theorem cPow_ok {i j : Int} (h : cPow i j = true) : CPow i j := by
  unfold cPow at h
  have h2 := of_decide_eq_true h
  exact h2
def oPow : F1 (D × D) D := oInt cPow fun i j => .int (i ^ j.toNat)
section
variable {c : Cxt} {a b : Expr} {fa fb : F3 D} {pos : Pos}
theorem simE_add (ha : SimE c a fa) (hb : SimE c b fb) : SimE c (.BinOp a .Add b pos) (fB oAdd fa fb) := simE_bin (fun X o => by rw [← o.K]; exact op_addA) opS_add ha hb
theorem simE_sub (ha : SimE c a fa) (hb : SimE c b fb) : SimE c (.BinOp a .Sub b pos) (fB oSub fa fb) := simE_bin (fun X o => opR_I0 op_sub) (opS_int (fun _ _ _ => trivial) fun _ _ _ _ => .int _) ha hb
theorem simE_mul (ha : SimE c a fa) (hb : SimE c b fb) : SimE c (.BinOp a .Mult b pos) (fB oMul fa fb) := simE_bin (fun X o => op_mul) (opS_int (C' := CMul) (fun _ _ h => cMul_ok h) fun _ _ _ _ => .int _) ha hb
theorem simE_div (ha : SimE c a fa) (hb : SimE c b fb) : SimE c (.BinOp a .FloorDiv b pos) (fB oDiv fa fb) := simE_bin (fun X o => op_fdiv) (opS_int (C' := CDiv) (fun _ _ h => cDiv_ok h) fun _ _ _ _ => .int _) ha hb
theorem simE_mod (ha : SimE c a fa) (hb : SimE c b fb) : SimE c (.BinOp a .Mod b pos) (fB oMod fa fb) := simE_bin (fun X o => op_mod) (opS_int (fun _ _ h => of_decide_eq_true h) fun _ _ _ _ => .int _) ha hb
theorem simE_pow (ha : SimE c a fa) (hb : SimE c b fb) : SimE c (.BinOp a .Pow b pos) (fB oPow fa fb) := simE_bin (fun X o => op_pow) (opS_int (C' := CPow) (fun _ _ h => cPow_ok h) fun _ _ _ _ => .int _) ha hb
end
/-! comparisons -/
def oEq : F1 (D × D) D := fun p st => match dat64 st p.1, dat64 st p.2 with
  | some x, some y => some (.bl (PyData.eqv x y), st)
  | _, _ => none
def oNe : F1 (D × D) D := fun p st => match dat64 st p.1, dat64 st p.2 with
  | some x, some y => some (.bl (!PyData.eqv x y), st)
  | _, _ => none
theorem opS_eq {g : Gs} : OpS g (Rl2 g) (Rl g) (fun p H Q => rEqD g.K p.1 p.2 H Q) oEq := by
  rintro ⟨x, y⟩ st z st' e ms H ⟨vx, vy⟩ rs ⟨hx, hy⟩ Q h
  unfold oEq at e
  split at e
  · rename_i x' y' e1 e2
    cases e
    obtain ⟨d1, s1⟩ := dat64_ok rs e1 hx
    obtain ⟨d2, s2⟩ := dat64_ok rs e2 hy
    exact ⟨x', y', d1, d2, s1, s2, q_here rs h (.bl _)⟩
  · cases e
theorem opS_ne {g : Gs} : OpS g (Rl2 g) (Rl g) (fun p H Q => rNeD g.K p.1 p.2 H Q) oNe := by
  rintro ⟨x, y⟩ st z st' e ms H ⟨vx, vy⟩ rs ⟨hx, hy⟩ Q h
  unfold oNe at e
  split at e
  · rename_i x' y' e1 e2
    cases e
    obtain ⟨d1, s1⟩ := dat64_ok rs e1 hx
    obtain ⟨d2, s2⟩ := dat64_ok rs e2 hy
    exact ⟨x', y', d1, d2, s1, s2, q_here rs h (.bl _)⟩
  · cases e
/-- < on ints, texts, tuples of ints -/
def intsOf : List D → Option (List Int)
  | [] => some []
  | .int i :: r => match intsOf r with
    | some is => some (i :: is)
    | none => none
  | _ => none
theorem intsOf_ok {g : Gs} {ms : List Addr} {H : Hp} : ∀ {ds : List D} {is : List Int} {vs : List V}, intsOf ds = some is → RlA g ms H ds vs → vs = is.map V.int
  | [], is, vs, h, r => by
    cases r
    unfold intsOf at h
    cases h
    rfl
  | .int i :: ds, is, vs, h, r => by
    cases r with
    | cons r1 r2 =>
      unfold intsOf at h
      split at h
      · rename_i js e
        cases h
        cases r1
        rw [intsOf_ok e r2]
        rfl
      · cases h
  | .non :: ds, is, vs, h, r => by simp [intsOf] at h
  | .bl _ :: ds, is, vs, h, r => by simp [intsOf] at h
  | .str _ :: ds, is, vs, h, r => by simp [intsOf] at h
  | .tup _ :: ds, is, vs, h, r => by simp [intsOf] at h
  | .tcon _ :: ds, is, vs, h, r => by simp [intsOf] at h
  | .lcon _ :: ds, is, vs, h, r => by simp [intsOf] at h
  | .loc _ :: ds, is, vs, h, r => by simp [intsOf] at h
  | .exn _ :: ds, is, vs, h, r => by simp [intsOf] at h
  | .fn _ :: ds, is, vs, h, r => by simp [intsOf] at h
  | .cl _ :: ds, is, vs, h, r => by simp [intsOf] at h
  | .ty _ :: ds, is, vs, h, r => by simp [intsOf] at h
def oLt : F1 (D × D) D := fun p st => match p with
  | (.int i, .int j) => some (.bl (decide (i < j)), st)
  | (.str i, .str j) => some (.bl (decide (i.cps.toList < j.cps.toList)), st)
  | (.tup xs, .tup ys) => match intsOf xs, intsOf ys with
    | some is, some js => some (.bl (HT.lexLt is js), st)
    | _, _ => none
  | _ => none
def rLtA (K : PySem.W.Frag) : R2 := fun x y H Q => ((rI0 fun i j => .bl (decide (i < j))) x y H Q ∨ (∃ i j, x = .str i ∧ y = .str j ∧ Q (.bl (decide (i.cps.toList < j.cps.toList))) H)) ∨ rLtT K x y H Q
theorem opS_lt {g : Gs} : OpS g (Rl2 g) (Rl g) (fun p H Q => rLtA g.K p.1 p.2 H Q) oLt := by
  rintro ⟨x, y⟩ st z st' e ms H ⟨vx, vy⟩ rs ⟨hx, hy⟩ Q h
  unfold oLt at e
  split at e
  · rename_i h0
    cases h0
    cases e
    cases hx
    cases hy
    exact .inl (.inl ⟨_, _, rfl, rfl, q_here rs h (.bl _)⟩)
  · rename_i h0
    cases h0
    cases e
    cases hx
    cases hy
    exact .inl (.inr ⟨_, _, rfl, rfl, q_here rs h (.bl _)⟩)
  · rename_i xs ys h0
    cases h0
    split at e
    · rename_i is js e1 e2
      cases e
      cases hx with
      | tup hp ha =>
        cases hy with
        | tup hq hb =>
          rename_i p us q ws
          rw [intsOf_ok e1 ha] at hp
          rw [intsOf_ok e2 hb] at hq
          exact .inr ⟨p, q, is, js, rfl, rfl, .inl (.inl hp), .inl (.inl hq), q_here rs h (.bl _)⟩
    · cases e
  · cases e
def oLe : F1 (D × D) D := fun p st => match p with
  | (.int i, .int j) => some (.bl (decide (i ≤ j)), st)
  | (.str i, .str j) => some (.bl (!decide (j.cps.toList < i.cps.toList)), st)
  | _ => none
def rLeA : R2 := fun x y H Q => (rI0 fun i j => .bl (decide (i ≤ j))) x y H Q ∨ (∃ i j, x = .str i ∧ y = .str j ∧ Q (.bl (!decide (j.cps.toList < i.cps.toList))) H)
theorem opS_le {g : Gs} : OpS g (Rl2 g) (Rl g) (fun p H Q => rLeA p.1 p.2 H Q) oLe := by
  rintro ⟨x, y⟩ st z st' e ms H ⟨vx, vy⟩ rs ⟨hx, hy⟩ Q h
  unfold oLe at e
  split at e
  · rename_i h0
    cases h0
    cases e
    cases hx
    cases hy
    exact .inl ⟨_, _, rfl, rfl, q_here rs h (.bl _)⟩
  · rename_i h0
    cases h0
    cases e
    cases hx
    cases hy
    exact .inr ⟨_, _, rfl, rfl, q_here rs h (.bl _)⟩
  · cases e
def oGt : F1 (D × D) D := oInt yes2 fun i j => .bl (decide (j < i))
def oGe : F1 (D × D) D := oInt yes2 fun i j => .bl (decide (j ≤ i))
/-- x in a list or tuple of scalars -/
def oIn (neg : Bool) : F1 (D × D) D := fun p st => match scl p.1, seqA st p.2 with
  | some u, some ds => match sclA ds with
    | some us => some (.bl (if neg then !inV u us else inV u us), st)
    | none => none
  | _, _ => none
theorem opS_in {g : Gs} {neg : Bool} : OpS g (Rl2 g) (Rl g) (fun p H Q => rIn g.K neg p.1 p.2 H Q) (oIn neg) := by
  rintro ⟨x, y⟩ st z st' e ms H ⟨vx, vy⟩ rs ⟨hx, hy⟩ Q h
  unfold oIn at e
  split at e
  · rename_i u ds e1 e2
    split at e
    · rename_i us e3
      cases e
      obtain ⟨p, vs, rfl, hp, ha⟩ := seqA_ok rs hy e2
      obtain ⟨h1, h2⟩ := scl_ok hx e1
      obtain ⟨h3, h4⟩ := sclA_ok ha e3
      subst h1 h3
      exact ⟨p, _, rfl, hp, h2, h4, q_here rs h (.bl _)⟩
    · cases e
  · cases e
/-- one sign within a text -/
def oInS (neg : Bool) : F1 (D × D) D := fun p st => match p with
  | (.str x, .str z) => match x.cps.toList with
    | [c] => some (.bl (if neg then !decide (c ∈ z.cps.toList) else decide (c ∈ z.cps.toList)), st)
    | _ => none
  | _ => none
theorem str_one {x : Str} {c : Nat} (h : x.cps.toList = [c]) : x = ⟨#[c]⟩ := by
  obtain ⟨a⟩ := x
  have e : a = #[c] := by
    apply Array.toList_inj.mp
    exact h
  rw [e]
theorem opS_inS {g : Gs} : OpS g (Rl2 g) (Rl g) (fun p H Q => ∃ (c : Nat) (z : Str), p.1 = .str ⟨#[c]⟩ ∧ p.2 = .str z ∧ Q (.bl (decide (c ∈ z.cps.toList))) H) (oInS false) := by
  rintro ⟨x, y⟩ st z st' e ms H ⟨vx, vy⟩ rs ⟨hx, hy⟩ Q h
  unfold oInS at e
  split at e
  · rename_i h0
    cases h0
    split at e
    · rename_i h1
      cases e
      cases hx
      cases hy
      exact ⟨_, _, by rw [str_one h1], rfl, q_here rs h (.bl _)⟩
    · cases e
  · cases e
section
variable {c : Cxt} {a b : Expr} {fa fb : F3 D} {pos : Pos}
theorem OkX.hu64 {X : Cx} (o : OkX c X) : X.A.units + 65 < cLine := by have := o.room.un; omega
theorem OkX.hu {X : Cx} (o : OkX c X) : X.A.units + 1 < cLine := by have := o.room.un; omega
theorem nomk (b : Expr) {op : CmpOp} (h : op ≠ .In := by decide) (h2 : op ≠ .NotIn := by decide) : behindInMarks op b = false := nomark b h h2
theorem simE_eq (ha : SimE c a fa) (hb : SimE c b fb) : SimE c (.Compare a [.Eq] [b] pos) (fB oEq fa fb) := simE_cmp (fun X o => by rw [← o.K]; exact op_eqD (by have := o.hu64; omega)) opS_eq ha hb (nomk b)
theorem simT_eq (ha : SimE c a fa) (hb : SimE c b fb) : SimT c (.Compare a [.Eq] [b] pos) (bnd (fB oEq fa fb) asB) := simT_cmp (fun X o => by rw [← o.K]; exact op_eqD (by have := o.hu64; omega)) opS_eq ha hb (nomk b)
theorem simE_ne (ha : SimE c a fa) (hb : SimE c b fb) : SimE c (.Compare a [.NotEq] [b] pos) (fB oNe fa fb) := simE_cmp (fun X o => by rw [← o.K]; exact op_neD (by have := o.hu64; omega)) opS_ne ha hb (nomk b)
theorem simT_ne (ha : SimE c a fa) (hb : SimE c b fb) : SimT c (.Compare a [.NotEq] [b] pos) (bnd (fB oNe fa fb) asB) := simT_cmp (fun X o => by rw [← o.K]; exact op_neD (by have := o.hu64; omega)) opS_ne ha hb (nomk b)
theorem opR_lt {X : Cx} (o : OkX c X) : OpR X (compareOp .Lt) (rLtA c.g.K) := by rw [← o.K]; exact OpR.or (OpR.or op_lt op_lt_str) (op_ltT (by have := o.hu; omega))
theorem opR_le {X : Cx} (o : OkX c X) : OpR X (compareOp .LtE) rLeA := OpR.or op_le op_le_str
theorem simE_lt (ha : SimE c a fa) (hb : SimE c b fb) : SimE c (.Compare a [.Lt] [b] pos) (fB oLt fa fb) := simE_cmp (fun X o => opR_lt o) opS_lt ha hb (nomk b)
theorem simT_lt (ha : SimE c a fa) (hb : SimE c b fb) : SimT c (.Compare a [.Lt] [b] pos) (bnd (fB oLt fa fb) asB) := simT_cmp (fun X o => opR_lt o) opS_lt ha hb (nomk b)
theorem simE_le (ha : SimE c a fa) (hb : SimE c b fb) : SimE c (.Compare a [.LtE] [b] pos) (fB oLe fa fb) := simE_cmp (fun X o => opR_le o) opS_le ha hb (nomk b)
theorem simT_le (ha : SimE c a fa) (hb : SimE c b fb) : SimT c (.Compare a [.LtE] [b] pos) (bnd (fB oLe fa fb) asB) := simT_cmp (fun X o => opR_le o) opS_le ha hb (nomk b)
theorem opS_gt {g : Gs} : OpS g (Rl2 g) (Rl g) (fun p H Q => rI (fun _ _ => True) (fun i j => .bl (decide (j < i))) p.1 p.2 H Q) oGt := opS_int (fun _ _ _ => trivial) fun _ _ _ _ => .bl _
theorem opS_ge {g : Gs} : OpS g (Rl2 g) (Rl g) (fun p H Q => rI (fun _ _ => True) (fun i j => .bl (decide (j ≤ i))) p.1 p.2 H Q) oGe := opS_int (fun _ _ _ => trivial) fun _ _ _ _ => .bl _
theorem simE_gt (ha : SimE c a fa) (hb : SimE c b fb) : SimE c (.Compare a [.Gt] [b] pos) (fB oGt fa fb) := simE_cmp (fun X o => opR_I0 op_gt) opS_gt ha hb (nomk b)
theorem simT_gt (ha : SimE c a fa) (hb : SimE c b fb) : SimT c (.Compare a [.Gt] [b] pos) (bnd (fB oGt fa fb) asB) := simT_cmp (fun X o => opR_I0 op_gt) opS_gt ha hb (nomk b)
theorem simE_ge (ha : SimE c a fa) (hb : SimE c b fb) : SimE c (.Compare a [.GtE] [b] pos) (fB oGe fa fb) := simE_cmp (fun X o => opR_I0 op_ge) opS_ge ha hb (nomk b)
theorem simT_ge (ha : SimE c a fa) (hb : SimE c b fb) : SimT c (.Compare a [.GtE] [b] pos) (bnd (fB oGe fa fb) asB) := simT_cmp (fun X o => opR_I0 op_ge) opS_ge ha hb (nomk b)
/-- hm: by with_unfolding_all rfl -/
theorem simE_in (ha : SimE c a fa) (hb : SimE c b fb) (hm : behindInMarks .In b = false := by with_unfolding_all rfl) : SimE c (.Compare a [.In] [b] pos) (fB (oIn false) fa fb) := simE_cmp (fun X o => by rw [← o.K]; exact op_in_seq) opS_in ha hb hm
theorem simT_in (ha : SimE c a fa) (hb : SimE c b fb) (hm : behindInMarks .In b = false := by with_unfolding_all rfl) : SimT c (.Compare a [.In] [b] pos) (bnd (fB (oIn false) fa fb) asB) := simT_cmp (fun X o => by rw [← o.K]; exact op_in_seq) opS_in ha hb hm
theorem simE_nin (ha : SimE c a fa) (hb : SimE c b fb) (hm : behindInMarks .NotIn b = false := by with_unfolding_all rfl) : SimE c (.Compare a [.NotIn] [b] pos) (fB (oIn true) fa fb) := simE_cmp (fun X o => by rw [← o.K]; exact op_notIn_seq) opS_in ha hb hm
theorem simT_nin (ha : SimE c a fa) (hb : SimE c b fb) (hm : behindInMarks .NotIn b = false := by with_unfolding_all rfl) : SimT c (.Compare a [.NotIn] [b] pos) (bnd (fB (oIn true) fa fb) asB) := simT_cmp (fun X o => by rw [← o.K]; exact op_notIn_seq) opS_in ha hb hm
theorem simE_inS (ha : SimE c a fa) (hb : SimE c b fb) (hm : behindInMarks .In b = false := by with_unfolding_all rfl) : SimE c (.Compare a [.In] [b] pos) (fB (oInS false) fa fb) := simE_cmp (fun X o => op_in_sign) opS_inS ha hb hm
end
end S3

set_option maxHeartbeats 2000000
/-! S3D: logic, subscripts, slices, dicts, calls of built-ins. -/
namespace S3
open PySem PySem.Spec PyProof.Rows L2

/-! ### is None, is a bool -/
def isN : D → Bool
  | .non => true
  | _ => false
theorem isN_ok {g : Gs} {ms : List Addr} {H : Hp} {d : D} {v : V} (r : Rl g ms H d v) : decide (v = .non) = isN d := by
  cases r <;> rfl
def oIsN (neg : Bool) : F1 D D := fun d st => some (.bl (if neg then !isN d else isN d), st)
section
variable {c : Cxt} {a b e : Expr} {es : List Expr} {fa fb : F3 D} {pos pos' : Pos}
theorem rd_isN {g : Gs} {E : XK} {ta : TE} {fa : F3 D} (h : Rd g E (Rl g) ta fa) : Rd g E (Rl g) (tIsN ta) (fU (oIsN false) fa) := by
  intro env st r st' e ms σ H rs re Q hq
  refine h.bind e rs re (fun x st1 ms1 H1 fw rs1 re1 e1 v hv => ?_) fun c ms1 H1 er fw rs1 => out_er hq er fw rs1
  cases e1
  exact hq ms1 H1 fw rs1 _ (by rw [isN_ok hv]; exact .bl _)
theorem rd_notN {g : Gs} {E : XK} {ta : TE} {fa : F3 D} (h : Rd g E (Rl g) ta fa) : Rd g E (Rl g) (tNotN ta) (fU (oIsN true) fa) := by
  intro env st r st' e ms σ H rs re Q hq
  refine h.bind e rs re (fun x st1 ms1 H1 fw rs1 re1 e1 v hv => ?_) fun c ms1 H1 er fw rs1 => out_er hq er fw rs1
  cases e1
  exact hq ms1 H1 fw rs1 _ (by rw [isN_ok hv]; exact .bl _)
theorem simE_isN {j : Nat} (ha : SimE c a fa) : SimE c (.Compare a [.Is] [.Constant .none j pos'] pos) (fU (oIsN false) fa) := by
  obtain ⟨ta, pa, ra⟩ := ha
  exact ⟨tIsN ta, fun X o => pe_cmp (pc_isN (pa X o)), rd_isN ra⟩
theorem simE_notN {j : Nat} (ha : SimE c a fa) : SimE c (.Compare a [.IsNot] [.Constant .none j pos'] pos) (fU (oIsN true) fa) := by
  obtain ⟨ta, pa, ra⟩ := ha
  exact ⟨tNotN ta, fun X o => pe_cmp (pc_notN (pa X o)), rd_notN ra⟩
theorem Rd.tB {g : Gs} {E : XK} {t : TE} {f : F3 D} (h : Rd g E (Rl g) t f) : Rd g E RelB (tB t) (bnd f asB) := h.test
theorem simT_isN {j : Nat} (ha : SimE c a fa) : SimT c (.Compare a [.Is] [.Constant .none j pos'] pos) (bnd (fU (oIsN false) fa) asB) := by
  obtain ⟨ta, pa, ra⟩ := ha
  exact ⟨tB (tIsN ta), fun X o => pt_cmp (pc_isN (pa X o)), (rd_isN ra).tB⟩
theorem simT_notN {j : Nat} (ha : SimE c a fa) : SimT c (.Compare a [.IsNot] [.Constant .none j pos'] pos) (bnd (fU (oIsN true) fa) asB) := by
  obtain ⟨ta, pa, ra⟩ := ha
  exact ⟨tB (tNotN ta), fun X o => pt_cmp (pc_notN (pa X o)), (rd_notN ra).tB⟩
/-- is, of two bools -/
def oIsB (neg : Bool) : F1 (D × D) D := fun p st => match p with
  | (.bl a, .bl b) => some (.bl (if neg then !decide (a = b) else decide (a = b)), st)
  | _ => none
theorem opS_isB {g : Gs} : OpS g (Rl2 g) (Rl g) (fun p H Q => ∃ a b, p.1 = V.bl a ∧ p.2 = V.bl b ∧ Q (.bl (decide (a = b))) H) (oIsB false) := by
  rintro ⟨x, y⟩ st z st' e ms H ⟨vx, vy⟩ rs ⟨hx, hy⟩ Q h
  unfold oIsB at e
  split at e
  · rename_i h0
    cases h0
    cases e
    cases hx
    cases hy
    exact ⟨_, _, rfl, rfl, q_here rs h (.bl _)⟩
  · cases e
theorem opS_isnotB {g : Gs} : OpS g (Rl2 g) (Rl g) (fun p H Q => ∃ a b, p.1 = V.bl a ∧ p.2 = V.bl b ∧ Q (.bl (!decide (a = b))) H) (oIsB true) := by
  rintro ⟨x, y⟩ st z st' e ms H ⟨vx, vy⟩ rs ⟨hx, hy⟩ Q h
  unfold oIsB at e
  split at e
  · rename_i h0
    cases h0
    cases e
    cases hx
    cases hy
    exact ⟨_, _, rfl, rfl, q_here rs h (.bl _)⟩
  · cases e
theorem simT_isB (ha : SimE c a fa) (hb : SimE c b fb) : SimT c (.Compare a [.Is] [b] pos) (bnd (fB (oIsB false) fa fb) asB) := simT_cmp (fun X o => op_is_bl) opS_isB ha hb (nomk b)
theorem simT_isnotB (ha : SimE c a fa) (hb : SimE c b fb) : SimT c (.Compare a [.IsNot] [b] pos) (bnd (fB (oIsB true) fa fb) asB) := simT_cmp (fun X o => op_isnot_bl) opS_isnotB ha hb (nomk b)
theorem simE_isB (ha : SimE c a fa) (hb : SimE c b fb) : SimE c (.Compare a [.Is] [b] pos) (fB (oIsB false) fa fb) := simE_cmp (fun X o => op_is_bl) opS_isB ha hb (nomk b)

/-! ### and, or, not, if -/
def SimW (c : Cxt) (e : Expr) (f : F3 Bool) : Prop := ∃ t : TT, (∀ X, OkX c X → PW X e t) ∧ Rd c.g c.E RelB t f
theorem SimW.t {f : F3 Bool} (h : SimW c e f) : SimT c e f := by
  obtain ⟨t, p, r⟩ := h
  exact ⟨t, fun X o => (p X o).pt, r⟩
def fAnd (f g : F3 Bool) : F3 Bool := bnd f fun b => if b = true then g else ret3 false
def fOr (f g : F3 Bool) : F3 Bool := bnd f fun b => if b = true then ret3 true else g
def fNot (f : F3 Bool) : F3 Bool := bnd f fun b => ret3 (!b)
variable {rest : List Expr} {f1 f2 : F3 Bool}
theorem rd_and {g : Gs} {E : XK} {t u : TT} (h : Rd g E RelB t f1) (h2 : Rd g E RelB u f2) : Rd g E RelB (tAnd t u) (fAnd f1 f2) := by
  intro env st r st' e ms σ H rs re Q hq
  refine h.bind e rs re (fun x st1 ms1 H1 fw rs1 re1 e1 b hb => ?_) fun c ms1 H1 er fw rs1 => out_er hq er fw rs1
  cases hb
  cases x with
  | true => exact iteT (h2 env st1 r st' e1 ms1 σ H1 rs1 re1 Q fun ms2 H2 fw2 rs2 => hq ms2 H2 (fw.trans fw2) rs2)
  | false =>
    cases e1
    exact iteF (hq ms1 H1 fw rs1 _ rfl)
theorem rd_or {g : Gs} {E : XK} {t u : TT} (h : Rd g E RelB t f1) (h2 : Rd g E RelB u f2) : Rd g E RelB (tOr t u) (fOr f1 f2) := by
  intro env st r st' e ms σ H rs re Q hq
  refine h.bind e rs re (fun x st1 ms1 H1 fw rs1 re1 e1 b hb => ?_) fun c ms1 H1 er fw rs1 => out_er hq er fw rs1
  cases hb
  cases x with
  | false => exact iteF (h2 env st1 r st' e1 ms1 σ H1 rs1 re1 Q fun ms2 H2 fw2 rs2 => hq ms2 H2 (fw.trans fw2) rs2)
  | true =>
    cases e1
    exact iteT (hq ms1 H1 fw rs1 _ rfl)
theorem rd_not {g : Gs} {E : XK} {t : TT} (h : Rd g E RelB t f1) : Rd g E RelB (tNot t) (fNot f1) := by
  intro env st r st' e ms σ H rs re Q hq
  refine h.bind e rs re (fun x st1 ms1 H1 fw rs1 re1 e1 b hb => ?_) fun c ms1 H1 er fw rs1 => out_er hq er fw rs1
  cases hb
  cases e1
  exact hq ms1 H1 fw rs1 _ rfl
theorem simW_and1 (ha : SimT c a f1) : SimW c (.BoolOp .And [a] pos) f1 := by
  obtain ⟨t, p, r⟩ := ha
  exact ⟨t, fun X o => pw_and1 (p X o), r⟩
theorem simW_or1 (ha : SimT c a f1) : SimW c (.BoolOp .Or [a] pos) f1 := by
  obtain ⟨t, p, r⟩ := ha
  exact ⟨t, fun X o => pw_or1 (p X o), r⟩
theorem simW_and (ha : SimT c a f1) (hb : SimW c (.BoolOp .And (b :: rest) pos) f2) : SimW c (.BoolOp .And (a :: b :: rest) pos) (fAnd f1 f2) := by
  obtain ⟨t, p, r⟩ := ha
  obtain ⟨t2, p2, r2⟩ := hb
  exact ⟨tAnd t t2, fun X o => pw_and (p X o) (p2 X o), rd_and r r2⟩
theorem simW_or (ha : SimT c a f1) (hb : SimW c (.BoolOp .Or (b :: rest) pos) f2) : SimW c (.BoolOp .Or (a :: b :: rest) pos) (fOr f1 f2) := by
  obtain ⟨t, p, r⟩ := ha
  obtain ⟨t2, p2, r2⟩ := hb
  exact ⟨tOr t t2, fun X o => pw_or (p X o) (p2 X o), rd_or r r2⟩
theorem simT_not (ha : SimT c a f1) : SimT c (.UnaryOp .Not a pos) (fNot f1) := by
  obtain ⟨t, p, r⟩ := ha
  exact ⟨tNot t, fun X o => pt_not (p X o), rd_not r⟩
/-- a call, a name, a subscript as a test: its value is a bool -/
theorem simT_val (ha : SimE c a fa) (he : ∀ (env : Env) (whole : Sem Value), isTrue a env whole = (do let v ← whole; standAt a.pos; holding [v] (truthy v)) := by intro _ _; rfl) : SimT c a (bnd fa asB) := by
  obtain ⟨t, p, r⟩ := ha
  exact ⟨tB t, fun X o => pt_val (p X o) (he X.env), r.tB⟩
/-- .. as values -/
def fAndV (f g : F3 D) : F3 D := bnd (bnd f asB) fun b => if b = true then g else ret3 (.bl false)
def fOrV (f g : F3 D) : F3 D := bnd (bnd f asB) fun b => if b = true then ret3 (.bl true) else g
def fNotV (f : F3 D) : F3 D := bnd (bnd f asB) fun b => ret3 (.bl (!b))
theorem rd_andV {g : Gs} {E : XK} {t u : TE} (h : Rd g E (Rl g) t fa) (h2 : Rd g E (Rl g) u fb) : Rd g E (Rl g) (tAndV t u) (fAndV fa fb) := by
  intro env st r st' e ms σ H rs re Q hq
  have h' := h.tB
  have key : (tB t) σ H fun k H1 => if k = true then u σ H1 Q else Q (.bl false) H1 := by
    refine h'.bind e rs re (fun x st1 ms1 H1 fw rs1 re1 e1 b hb => ?_) fun c ms1 H1 er fw rs1 => out_er hq er fw rs1
    cases hb
    cases x with
    | true => exact iteT (h2 env st1 r st' e1 ms1 σ H1 rs1 re1 Q fun ms2 H2 fw2 rs2 => hq ms2 H2 (fw.trans fw2) rs2)
    | false =>
      cases e1
      exact iteF (hq ms1 H1 fw rs1 _ (.bl _))
  exact key
theorem rd_orV {g : Gs} {E : XK} {t u : TE} (h : Rd g E (Rl g) t fa) (h2 : Rd g E (Rl g) u fb) : Rd g E (Rl g) (tOrV t u) (fOrV fa fb) := by
  intro env st r st' e ms σ H rs re Q hq
  have h' := h.tB
  have key : (tB t) σ H fun k H1 => if k = true then Q (.bl true) H1 else u σ H1 Q := by
    refine h'.bind e rs re (fun x st1 ms1 H1 fw rs1 re1 e1 b hb => ?_) fun c ms1 H1 er fw rs1 => out_er hq er fw rs1
    cases hb
    cases x with
    | false => exact iteF (h2 env st1 r st' e1 ms1 σ H1 rs1 re1 Q fun ms2 H2 fw2 rs2 => hq ms2 H2 (fw.trans fw2) rs2)
    | true =>
      cases e1
      exact iteT (hq ms1 H1 fw rs1 _ (.bl _))
  exact key
theorem rd_notV {g : Gs} {E : XK} {t : TE} (h : Rd g E (Rl g) t fa) : Rd g E (Rl g) (tNotV t) (fNotV fa) := by
  intro env st r st' e ms σ H rs re Q hq
  have key : (tB t) σ H fun k H1 => Q (.bl (!k)) H1 := by
    refine h.tB.bind e rs re (fun x st1 ms1 H1 fw rs1 re1 e1 b hb => ?_) fun c ms1 H1 er fw rs1 => out_er hq er fw rs1
    cases hb
    cases e1
    exact hq ms1 H1 fw rs1 _ (.bl _)
  exact key
theorem simE_one {op : BoolOp} (ha : SimE c a fa) : SimE c (.BoolOp op [a] pos) fa := by
  obtain ⟨t, p, r⟩ := ha
  exact ⟨t, fun X o => pe_one (p X o), r⟩
theorem simE_and (ha : SimE c a fa) (hb : SimE c (.BoolOp .And (b :: rest) pos) fb) : SimE c (.BoolOp .And (a :: b :: rest) pos) (fAndV fa fb) := by
  obtain ⟨t, p, r⟩ := ha
  obtain ⟨t2, p2, r2⟩ := hb
  exact ⟨tAndV t t2, fun X o => pe_and (p X o) (p2 X o), rd_andV r r2⟩
theorem simE_or (ha : SimE c a fa) (hb : SimE c (.BoolOp .Or (b :: rest) pos) fb) : SimE c (.BoolOp .Or (a :: b :: rest) pos) (fOrV fa fb) := by
  obtain ⟨t, p, r⟩ := ha
  obtain ⟨t2, p2, r2⟩ := hb
  exact ⟨tOrV t t2, fun X o => pe_or (p X o) (p2 X o), rd_orV r r2⟩
theorem simE_not (ha : SimE c a fa) : SimE c (.UnaryOp .Not a pos) (fNotV fa) := by
  obtain ⟨t, p, r⟩ := ha
  exact ⟨tNotV t, fun X o => pe_not (p X o), rd_notV r⟩
def fIf (f : F3 Bool) (g h : F3 D) : F3 D := bnd f fun b => if b = true then g else h
theorem simE_if {e : Expr} (hc : SimT c e f1) (ha : SimE c a fa) (hb : SimE c b fb) : SimE c (.IfExp e a b pos) (fIf f1 fa fb) := by
  obtain ⟨t, p, r⟩ := hc
  obtain ⟨ta, pa, ra⟩ := ha
  obtain ⟨tb, pb, rb⟩ := hb
  refine ⟨tIf t ta tb, fun X o => pe_ifExp (p X o) (pa X o) (pb X o), ?_⟩
  intro env st rr st' e ms σ H rs re Q hq
  refine r.bind e rs re (fun x st1 ms1 H1 fw rs1 re1 e1 b hb => ?_) fun c ms1 H1 er fw rs1 => out_er hq er fw rs1
  cases hb
  cases x with
  | true => exact iteT (ra env st1 rr st' e1 ms1 σ H1 rs1 re1 Q fun ms2 H2 fw2 rs2 => hq ms2 H2 (fw.trans fw2) rs2)
  | false => exact iteF (rb env st1 rr st' e1 ms1 σ H1 rs1 re1 Q fun ms2 H2 fw2 rs2 => hq ms2 H2 (fw.trans fw2) rs2)
/-- unary minus -/
def oNeg : F1 D D := fun d st => match d with
  | .int i => some (.int (-i), st)
  | _ => none
theorem simE_neg (ha : SimE c a fa) : SimE c (.UnaryOp .USub a pos) (fU oNeg fa) := by
  obtain ⟨ta, pa, ra⟩ := ha
  refine ⟨tUn (rU fun i => .int (-i)) ta, fun X o => pe_un un_neg (pa X o), ra.op1 ?_⟩
  intro d st z st' e ms H v rs hv Q h
  unfold oNeg at e
  split at e
  · cases e
    cases hv
    exact ⟨_, rfl, q_here rs h (.int _)⟩
  · cases e

/-! ### a <= b <= c -/
def fChain (o1 o2 : F1 (D × D) D) (fa fb fc : F3 D) : F3 D := bnd fa fun x => bnd fb fun y => bnd (bnd (lift o1 (x, y)) asB) fun k => if k = true then bnd fc fun w => lift o2 (y, w) else ret3 (.bl false)
theorem rd_chain {g : Gs} {E : XK} {ta tb tc : TE} {fa fb fc : F3 D} {r r' : R2} {o1 o2 : F1 (D × D) D} (ha : Rd g E (Rl g) ta fa) (hb : Rd g E (Rl g) tb fb) (hc : Rd g E (Rl g) tc fc)
    (h1 : OpS g (Rl2 g) (Rl g) (fun p H Q => r p.1 p.2 H Q) o1) (h2 : OpS g (Rl2 g) (Rl g) (fun p H Q => r' p.1 p.2 H Q) o2) : Rd g E (Rl g) (tChain r r' ta tb tc) (fChain o1 o2 fa fb fc) := by
  intro env st rr st' e ms σ H rs re Q hq
  refine ha.bind e rs re (fun x st1 ms1 H1 fw1 rs1 re1 e1 vx hx => ?_) fun c ms1 H1 er fw rs1 => out_er hq er fw rs1
  refine hb.bind e1 rs1 re1 (fun y st2 ms2 H2 fw2 rs2 re2 e2 vy hy => ?_) fun c ms2 H2 er fw2 rs2 => out_er hq er (fw1.trans fw2) rs2
  unfold bnd at e2
  split at e2
  · rename_i k st3 hk
    unfold lift at hk
    split at hk
    · rename_i z st4 hz
      split at hz
      · rename_i z' st5 hz'
        cases hz
        unfold asB at hk
        split at hk
        · cases hk
          refine h1 (x, y) st2 _ _ hz' ms2 H2 (vx, vy) rs2 ⟨fw2.rl hx, hy⟩ _ fun ms3 H3 u fw3 rs3 hu => ?_
          cases hu
          refine ⟨_, rfl, ?_⟩
          have re3 := re2.mono fw3
          cases k with
          | false =>
            cases e2
            exact iteF (hq ms3 H3 ((fw1.trans fw2).trans fw3) rs3 _ (.bl _))
          | true =>
            refine iteT (hc.bind e2 rs3 re3 (fun w st6 ms4 H4 fw4 rs4 re4 e4 vw hw => ?_) fun c ms4 H4 er fw4 rs4 => out_er hq er (((fw1.trans fw2).trans fw3).trans fw4) rs4)
            unfold lift at e4
            split at e4
            · rename_i z2 st7 hz2
              cases e4
              exact h2 (y, w) st6 _ _ hz2 ms4 H4 (vy, vw) rs4 ⟨(fw3.trans fw4).rl hy, hw⟩ _ fun ms5 H5 u fw5 rs5 hu => hq ms5 H5 ((((fw1.trans fw2).trans fw3).trans fw4).trans fw5) rs5 _ hu
            · cases e4
        · cases hk
      · cases hz
    · rename_i cc st4 hz
      split at hz <;> cases hz
    · cases hk
  · rename_i cc st3 hk
    unfold lift at hk
    split at hk
    · rename_i z st4 hz
      unfold asB at hk
      split at hk <;> cases hk
    · rename_i cc st4 hz
      split at hz <;> cases hz
    · cases hk
  · cases e2
variable {fc : F3 D} {d : Expr}
theorem simE_chain {op op' : CmpOp} {r r' : R2} {o1 o2 : F1 (D × D) D} (hr : ∀ X, OkX c X → OpR X (compareOp op) r) (ho : OpS c.g (Rl2 c.g) (Rl c.g) (fun p H Q => r p.1 p.2 H Q) o1) (hr' : ∀ X, OkX c X → OpR X (compareOp op') r') (ho' : OpS c.g (Rl2 c.g) (Rl c.g) (fun p H Q => r' p.1 p.2 H Q) o2)
    (ha : SimE c a fa) (hb : SimE c b fb) (hd : SimE c d fc) (hm : lastMarks [op, op'] [b, d] = false := by with_unfolding_all rfl) : SimE c (.Compare a [op, op'] [b, d] pos) (fChain o1 o2 fa fb fc) := by
  obtain ⟨ta, pa, ra⟩ := ha
  obtain ⟨tb, pb, rb⟩ := hb
  obtain ⟨td, pd, rd⟩ := hd
  exact ⟨tChain r r' ta tb td, fun X o => pe_chain (hr X o) (hr' X o) (pa X o) (pb X o) (pd X o) hm, rd_chain ra rb rd ho ho'⟩
theorem simT_chain {op op' : CmpOp} {r r' : R2} {o1 o2 : F1 (D × D) D} (hr : ∀ X, OkX c X → OpR X (compareOp op) r) (ho : OpS c.g (Rl2 c.g) (Rl c.g) (fun p H Q => r p.1 p.2 H Q) o1) (hr' : ∀ X, OkX c X → OpR X (compareOp op') r') (ho' : OpS c.g (Rl2 c.g) (Rl c.g) (fun p H Q => r' p.1 p.2 H Q) o2)
    (ha : SimE c a fa) (hb : SimE c b fb) (hd : SimE c d fc) (hm : lastMarks [op, op'] [b, d] = false := by with_unfolding_all rfl) : SimT c (.Compare a [op, op'] [b, d] pos) (bnd (fChain o1 o2 fa fb fc) asB) := by
  obtain ⟨ta, pa, ra⟩ := ha
  obtain ⟨tb, pb, rb⟩ := hb
  obtain ⟨td, pd, rd⟩ := hd
  exact ⟨tTest (tChain r r' ta tb td), fun X o => pt_chain (hr X o) (hr' X o) (pa X o) (pb X o) (pd X o) hm, (rd_chain ra rb rd ho ho').test⟩
theorem simE_leLt (ha : SimE c a fa) (hb : SimE c b fb) (hd : SimE c d fc) (hm : lastMarks [.LtE, .Lt] [b, d] = false := by with_unfolding_all rfl) : SimE c (.Compare a [.LtE, .Lt] [b, d] pos) (fChain oLe oLt fa fb fc) := simE_chain (fun X o => opR_le o) opS_le (fun X o => opR_lt o) opS_lt ha hb hd hm
theorem simT_leLe (ha : SimE c a fa) (hb : SimE c b fb) (hd : SimE c d fc) (hm : lastMarks [.LtE, .LtE] [b, d] = false := by with_unfolding_all rfl) : SimT c (.Compare a [.LtE, .LtE] [b, d] pos) (bnd (fChain oLe oLe fa fb fc) asB) := simT_chain (fun X o => opR_le o) opS_le (fun X o => opR_le o) opS_le ha hb hd hm
theorem simE_leLe (ha : SimE c a fa) (hb : SimE c b fb) (hd : SimE c d fc) (hm : lastMarks [.LtE, .LtE] [b, d] = false := by with_unfolding_all rfl) : SimE c (.Compare a [.LtE, .LtE] [b, d] pos) (fChain oLe oLe fa fb fc) := simE_chain (fun X o => opR_le o) opS_le (fun X o => opR_le o) opS_le ha hb hd hm
theorem simT_leLt (ha : SimE c a fa) (hb : SimE c b fb) (hd : SimE c d fc) (hm : lastMarks [.LtE, .Lt] [b, d] = false := by with_unfolding_all rfl) : SimT c (.Compare a [.LtE, .Lt] [b, d] pos) (bnd (fChain oLe oLt fa fb fc) asB) := simT_chain (fun X o => opR_le o) opS_le (fun X o => opR_lt o) opS_lt ha hb hd hm
end

/-! ### subscripts -/
theorem RlA.atI {g : Gs} {ms : List Addr} {H : Hp} {ds : List D} {vs : List V} {i : Int} {d : D} (r : RlA g ms H ds vs) (h : L2.atI ds i = some d) : ∃ v, L2.atI vs i = some v ∧ Rl g ms H d v := by
  unfold L2.atI at h ⊢
  rw [r.length] at h
  cases e : ixN vs.length i with
  | none =>
    rw [e] at h
    cases h
  | some j =>
    rw [e] at h
    exact r.get (i := j) h
def oIx : F1 (D × D) D := fun p st => match p.2 with
  | .int i => match p.1 with
    | .str z => if z.length ≤ sizeLine then match L2.atI z.cps.toList i with
        | some k => some (.str ⟨#[k]⟩, st)
        | none => none
      else none
    | x => match seqA st x with
      | some ds => match L2.atI ds i with
        | some d => some (d, st)
        | none => none
      | none => none
  | _ => none
theorem opS_ix {g : Gs} : OpS g (Rl2 g) (Rl g) (fun p H Q => rIx g.K p.1 p.2 H Q) oIx := by
  rintro ⟨x, y⟩ st z st' e ms H ⟨vx, vy⟩ rs ⟨hx, hy⟩ Q h
  unfold oIx at e
  split at e
  · rename_i i h0
    have h0 : y = .int i := h0
    subst h0
    cases hy
    split at e
    · rename_i w h1
      have h1 : x = .str w := h1
      subst h1
      split at e
      · rename_i hl
        split at e
        · rename_i k hk
          cases e
          cases hx
          exact .inr (.inr ⟨w, i, k, rfl, rfl, hl, hk, q_here rs h (.str _)⟩)
        · cases e
      · cases e
    · split at e
      · rename_i ds e1
        split at e
        · rename_i d e2
          cases e
          obtain ⟨p, vs, rfl, hp, ha⟩ := seqA_ok rs hx e1
          obtain ⟨v, k1, k2⟩ := ha.atI e2
          rcases hp with hp | hp
          · exact .inl ⟨p, vs, i, v, rfl, rfl, hp, k1, q_here rs h k2⟩
          · exact .inr (.inl ⟨p, vs, i, v, rfl, rfl, hp, k1, q_here rs h k2⟩)
        · cases e
      · cases e
  · cases e
section
variable {c : Cxt} {a b e : Expr} {es : List Expr} {fa fb : F3 D} {pos p2 : Pos}
theorem simE_ix (ha : SimE c a fa) (hb : SimE c b fb) (hs : PlainIx b := by intro _ _; rfl) : SimE c (.Subscript a b pos) (fB oIx fa fb) := by
  obtain ⟨ta, pa, ra⟩ := ha
  obtain ⟨tb, pb, rb⟩ := hb
  exact ⟨tOp (rIx c.g.K) ta tb, fun X o => pe_ix (by rw [← o.K]; exact ix_seq) (pa X o) (pb X o) hs, ra.op2 rb opS_ix⟩

/-! ### slices -/
def cut3 {α : Type} (xs : List α) (lo hi : Option Int) : List α := (xs.drop (HT.sIx xs.length 0 lo)).take (HT.sIx xs.length xs.length hi - HT.sIx xs.length 0 lo)
theorem RlA.cut {g : Gs} {ms : List Addr} {H : Hp} {ds : List D} {vs : List V} (r : RlA g ms H ds vs) (lo hi : Option Int) : RlA g ms H (cut3 ds lo hi) (cutV vs lo hi) := by
  unfold cut3 cutV
  rw [r.length]
  exact (r.drop _).take _
theorem cut3_all {α : Type} {xs : List α} {lo hi : Option Int} (h : HT.sIx xs.length 0 lo = 0 ∧ HT.sIx xs.length xs.length hi = xs.length) : cut3 xs lo hi = xs := by
  unfold cut3
  rw [h.1, h.2, List.drop_zero, Nat.sub_zero]
  exact List.take_length
def SimO (c : Cxt) (e : Option Expr) (f : F3 (Option Int)) : Prop := ∃ t : TO, (∀ X, OkX c X → PO X e t) ∧ Rd c.g c.E (fun _ _ a b => a = b) t f
def asI (d : D) : F3 (Option Int) := fun _ st => match d with
  | .int i => some (.ok (some i), st)
  | _ => none
theorem simO_none : SimO c none (ret3 none) := ⟨tNoPart, fun X o => po_none, Rd.ret (fun _ _ => rfl) fun _ _ _ h => h.symm⟩
theorem simO_some (ha : SimE c a fa) : SimO c (some a) (bnd fa asI) := by
  obtain ⟨ta, pa, ra⟩ := ha
  refine ⟨tPart ta, fun X o => po_some (pa X o), ?_⟩
  intro env st r st' e ms σ H rs re Q hq
  refine ra.bind e rs re (fun x st1 ms1 H1 fw rs1 re1 e1 v hv => ?_) fun c ms1 H1 er fw rs1 => out_er hq er fw rs1
  unfold asI at e1
  split at e1
  · cases e1
    cases hv
    exact ⟨_, rfl, hq ms1 H1 fw rs1 _ rfl⟩
  · cases e1
def oSl : F1 (D × Option Int × Option Int) D := fun p st => match p.1 with
  | .tup ds => some (.tup (cut3 ds p.2.1 p.2.2), st)
  | .str z => if z.length ≤ sizeLine then some (.str (cutS z p.2.1 p.2.2), st) else none
  | x => match seqL st x with
    | some ds => some (.loc st.length, st ++ [.lst (cut3 ds p.2.1 p.2.2)])
    | none => none
def fSl (fa : F3 D) (fl fh : F3 (Option Int)) : F3 D := bnd fa fun x => bnd fl fun l => bnd fh fun h => lift oSl (x, l, h)
abbrev rSlX (K : PySem.W.Frag) : V → Option Int → Option Int → Hp → VK → Prop := fun x lo hi H Q => ((rSlL K) x lo hi H Q ∨ (rSlA K) x lo hi H Q) ∨ (∃ z, x = .str z ∧ z.length ≤ sizeLine ∧ Q (.str (cutS z lo hi)) H)
theorem oSl_ok {g : Gs} {x : D} {lo hi : Option Int} {st st' : Sto} {z : D} (e : oSl (x, lo, hi) st = some (z, st')) {ms : List Addr} {H : Hp} {v : V} (rs : Rs g ms H st) (hx : Rl g ms H x v) {Q : VK} (h : ∀ ms' H' u, Fw ms H ms' H' → Rs g ms' H' st' → Rl g ms' H' z u → Q u H') : rSlX g.K v lo hi H Q := by
  unfold oSl at e
  split at e
  · rename_i ds h0
    have h0 : x = .tup ds := h0
    subst h0
    cases e
    cases hx with
    | tup hp ha =>
      rename_i p vs
      refine .inl (.inr ⟨p, vs, rfl, .inl (.inl hp), fun q => ?_, fun q b hb => ?_⟩)
      · refine q_here rs h ?_
        rw [cut3_all (by rw [ha.length]; exact q)]
        exact .tup hp ha
      · obtain ⟨fw, rs2⟩ := rs.fresh (o := .tup (cutV vs lo hi)) hb
        exact h _ _ _ fw rs2 (.tup upd_same ((fw.rlA ha).cut lo hi))
  · rename_i w h0
    have h0 : x = .str w := h0
    subst h0
    split at e
    · rename_i hl
      cases e
      cases hx
      exact .inr ⟨w, rfl, hl, q_here rs h (.str _)⟩
    · cases e
  · split at e
    · rename_i ds e1
      cases e
      obtain ⟨p, vs, rfl, hp, ha⟩ := seqL_ok rs hx e1
      refine .inl (.inl ⟨p, vs, rfl, hp, fun b hb => ?_⟩)
      obtain ⟨fw, rs2, r⟩ := rs.alloc (o := .lst (cutV vs lo hi)) (u := .lst (cut3 ds lo hi)) hb fun f e => ⟨_, e, (f.rlA ha).cut lo hi⟩
      exact h _ _ _ fw rs2 r
    · cases e
theorem simE_slice {lo hi : Option Expr} {fl fh : F3 (Option Int)} (ha : SimE c a fa) (hl : SimO c lo fl) (hh : SimO c hi fh) : SimE c (.Subscript a (.Slice lo hi none p2) pos) (fSl fa fl fh) := by
  obtain ⟨ta, pa, ra⟩ := ha
  obtain ⟨tl, pl, rl⟩ := hl
  obtain ⟨th, ph, rh⟩ := hh
  refine ⟨tSl (rSlX c.g.K) ta tl th, fun X o => pe_slice (by rw [← o.K]; exact SlR.or (SlR.or sl_list sl_tupA) sl_str) (pa X o) (pl X o) (ph X o), ?_⟩
  intro env st r st' e ms σ H rs re Q hq
  refine ra.bind e rs re (fun x st1 ms1 H1 fw1 rs1 re1 e1 v hv => ?_) fun c ms1 H1 er fw rs1 => out_er hq er fw rs1
  refine rl.bind e1 rs1 re1 (fun l st2 ms2 H2 fw2 rs2 re2 e2 l' hl => ?_) fun c ms2 H2 er fw2 rs2 => out_er hq er (fw1.trans fw2) rs2
  refine rh.bind e2 rs2 re2 (fun u st3 ms3 H3 fw3 rs3 re3 e3 u' hu => ?_) fun c ms3 H3 er fw3 rs3 => out_er hq er ((fw1.trans fw2).trans fw3) rs3
  cases hl
  cases hu
  unfold lift at e3
  split at e3
  · rename_i z st4 hz
    cases e3
    exact oSl_ok hz rs3 ((fw2.trans fw3).rl hv) fun ms4 H4 w fw4 rs4 hw => hq ms4 H4 (((fw1.trans fw2).trans fw3).trans fw4) rs4 w hw
  · cases e3
end
end S3

set_option maxHeartbeats 2000000
/-! S3E: calls of built-ins and of defs. -/
namespace S3
open PySem PySem.Spec PyProof.Rows L2

/-! ### plain argument lists -/
def plainA : List Expr → Bool
  | [] => true
  | e :: r => plainE e && plainA r
theorem star_any {pos : Pos} {env : Env} : ∀ {es : List Expr}, plainA es = true → (backTo pos (starEach es env)).any (·.1) = false
  | [], _ => rfl
  | e :: r, h => by
    unfold plainA at h
    obtain ⟨h1, h2⟩ := Bool.and_eq_true_iff.mp h
    rw [starEach_plain h1]
    exact star_any h2
theorem star_all {pos : Pos} {env : Env} : ∀ {es : List Expr}, plainA es = true → (backTo pos (starEach es env)).all (fun x => !x.1) = true
  | [], _ => rfl
  | e :: r, h => by
    unfold plainA at h
    obtain ⟨h1, h2⟩ := Bool.and_eq_true_iff.mp h
    rw [starEach_plain h1]
    exact star_all h2
theorem plain_head {e : Expr} {es : List Expr} (h : plainA (e :: es) = true) : plainE e = true ∧ plainA es = true := by
  unfold plainA at h
  exact Bool.and_eq_true_iff.mp h

section
variable {c : Cxt} {a b e : Expr} {es : List Expr} {fa fb : F3 D} {fr : F3 (List D)} {pos p p2 : Pos} {x : Str}
/-- a call of a built-in by its name -/
theorem simE_callB {id : String} {r : List V → Hp → VK → Prop} {o : F1 (List D) D} (hr : ∀ X, OkX c X → CallR X (.builtin id) r) (ho : OpS c.g (RlA c.g) (Rl c.g) r o) (hg : glB c.sc x = true) (hm : c.g.mg x = none) (hv : bootBuiltins x = some (.builtin id)) (ha : SimA c (e :: es) fr)
    (hp : plainA (e :: es) = true := by rfl) (hn : x ≠ "__name__" := by decide +kernel) : SimE c (.Call (.Name x p) (e :: es) [] pos) (fArgs o fr) := by
  obtain ⟨ta, pa, ra⟩ := ha
  obtain ⟨h1, h2⟩ := plain_head hp
  exact ⟨tCB r ta, fun X ok => pe_callB (hr X ok) (ok.gl hg) (by rw [ok.mg]; exact hm) hv (pa X ok) hn (glB_nd hg) (starEach_plain h1) (star_any h2), ra.op1 ho⟩
theorem simE_callTy {T : String} {r : List V → Hp → VK → Prop} {o : F1 (List D) D} (hr : ∀ X, OkX c X → CallR X (.type T) r) (ho : OpS c.g (RlA c.g) (Rl c.g) r o) (hg : glB c.sc x = true) (hm : c.g.mg x = none) (hv : bootBuiltins x = some (.type T)) (ha : SimA c (e :: es) fr)
    (hp : plainA (e :: es) = true := by rfl) (hn : x ≠ "__name__" := by decide +kernel) : SimE c (.Call (.Name x p) (e :: es) [] pos) (fArgs o fr) := by
  obtain ⟨ta, pa, ra⟩ := ha
  obtain ⟨h1, h2⟩ := plain_head hp
  exact ⟨tCB r ta, fun X ok => pe_callTy (hr X ok) (ok.gl hg) (by rw [ok.mg]; exact hm) hv (pa X ok) hn (glB_nd hg) (starEach_plain h1) (star_any h2), ra.op1 ho⟩
end

/-! ### the built-ins -/
theorem RlA.one' {g : Gs} {ms : List Addr} {H : Hp} {d : D} {vs : List V} (r : RlA g ms H [d] vs) : ∃ v, vs = [v] ∧ Rl g ms H d v := by
  cases r with
  | cons h t =>
    cases t
    exact ⟨_, rfl, h⟩
theorem RlA.two' {g : Gs} {ms : List Addr} {H : Hp} {d e : D} {vs : List V} (r : RlA g ms H [d, e] vs) : ∃ v w, vs = [v, w] ∧ Rl g ms H d v ∧ Rl g ms H e w := by
  cases r with
  | cons h t =>
    obtain ⟨w, rfl, h2⟩ := t.one'
    exact ⟨_, _, rfl, h, h2⟩
def oLen : F1 (List D) D := fun p st => match p with
  | [.str z] => if z.length ≤ sizeLine then some (.int z.length, st) else none
  | [x] => match seqA st x with
    | some ds => some (.int ds.length, st)
    | none => none
  | _ => none
abbrev rLenX (K : PySem.W.Frag) : List V → Hp → VK → Prop := fun xs H Q => (∃ p ys, xs = [.ref p] ∧ (SqL K H p ys ∨ SqT K H p ys) ∧ Q (.int ys.length) H) ∨ (∃ z, xs = [.str z] ∧ z.length ≤ sizeLine ∧ Q (.int z.length) H)
theorem opS_len {g : Gs} : OpS g (RlA g) (Rl g) (rLenX g.K) oLen := by
  intro ds st z st' e ms H vs rs hv Q h
  unfold oLen at e
  split at e
  · obtain ⟨v, rfl, hv1⟩ := hv.one'
    clear hv
    have hv := hv1
    clear hv1
    split at e
    · rename_i hl
      cases e
      cases hv
      exact .inr ⟨_, rfl, hl, q_here rs h (.int _)⟩
    · cases e
  · obtain ⟨v, rfl, hv1⟩ := hv.one'
    clear hv
    have hv := hv1
    clear hv1
    split at e
    · rename_i es e1
      cases e
      obtain ⟨p, us, rfl, hp, ha⟩ := seqA_ok rs hv e1
      exact .inl ⟨p, us, rfl, hp, q_here rs h (by rw [← ha.length]; exact .int _)⟩
    · cases e
  · cases e
def oAbs : F1 (List D) D := fun p st => match p with
  | [.int i] => some (.int (if i < 0 then -i else i), st)
  | _ => none
theorem opS_abs {g : Gs} : OpS g (RlA g) (Rl g) (fun xs H Q => ∃ i, xs = [.int i] ∧ Q (.int (if i < 0 then -i else i)) H) oAbs := by
  intro ds st z st' e ms H vs rs hv Q h
  unfold oAbs at e
  split at e
  · obtain ⟨v, rfl, hv1⟩ := hv.one'
    clear hv
    have hv := hv1
    clear hv1
    cases e
    cases hv
    exact ⟨_, rfl, q_here rs h (.int _)⟩
  · cases e
def oInt1 : F1 (List D) D := fun p st => match p with
  | [.int i] => some (.int i, st)
  | [.bl b] => some (.int (if b then 1 else 0), st)
  | _ => none
theorem opS_int1 {g : Gs} : OpS g (RlA g) (Rl g) (fun xs H Q => (∃ i, xs = [.int i] ∧ Q (.int i) H) ∨ ∃ k, xs = [.bl k] ∧ Q (.int (if k then 1 else 0)) H) oInt1 := by
  intro ds st z st' e ms H vs rs hv Q h
  unfold oInt1 at e
  split at e
  · obtain ⟨v, rfl, hv1⟩ := hv.one'
    clear hv
    have hv := hv1
    clear hv1
    cases e
    cases hv
    exact .inl ⟨_, rfl, q_here rs h (.int _)⟩
  · obtain ⟨v, rfl, hv1⟩ := hv.one'
    clear hv
    have hv := hv1
    clear hv1
    cases e
    cases hv
    exact .inr ⟨_, rfl, q_here rs h (.int _)⟩
  · cases e
/-- least, greatest -/
def minL : List Int → Int
  | [] => 0
  | [a] => a
  | a :: r => if minL r < a then minL r else a
def maxL : List Int → Int
  | [] => 0
  | [a] => a
  | a :: r => if a < maxL r then maxL r else a
theorem minL_spec : ∀ (ns : List Int), ns ≠ [] → minL ns ∈ ns ∧ ∀ y ∈ ns, minL ns ≤ y
  | [], h => absurd rfl h
  | [a], _ => ⟨by simp [minL], fun y hy => by simp at hy; simp [minL, hy]⟩
  | a :: b :: r, _ => by
    obtain ⟨h1, h2⟩ := minL_spec (b :: r) (by simp)
    show (if minL (b :: r) < a then minL (b :: r) else a) ∈ _ ∧ ∀ y ∈ _, (if minL (b :: r) < a then minL (b :: r) else a) ≤ y
    by_cases h : minL (b :: r) < a
    · rw [if_pos h]
      refine ⟨List.mem_cons_of_mem _ h1, fun y hy => ?_⟩
      rcases List.mem_cons.mp hy with rfl | hy
      · exact Int.le_of_lt h
      · exact h2 y hy
    · rw [if_neg h]
      refine ⟨List.mem_cons_self, fun y hy => ?_⟩
      rcases List.mem_cons.mp hy with rfl | hy
      · exact Int.le_refl _
      · exact Int.le_trans (Int.not_lt.mp h) (h2 y hy)
theorem maxL_spec : ∀ (ns : List Int), ns ≠ [] → maxL ns ∈ ns ∧ ∀ y ∈ ns, y ≤ maxL ns
  | [], h => absurd rfl h
  | [a], _ => ⟨by simp [maxL], fun y hy => by simp at hy; simp [maxL, hy]⟩
  | a :: b :: r, _ => by
    obtain ⟨h1, h2⟩ := maxL_spec (b :: r) (by simp)
    show (if a < maxL (b :: r) then maxL (b :: r) else a) ∈ _ ∧ ∀ y ∈ _, y ≤ (if a < maxL (b :: r) then maxL (b :: r) else a)
    by_cases h : a < maxL (b :: r)
    · rw [if_pos h]
      refine ⟨List.mem_cons_of_mem _ h1, fun y hy => ?_⟩
      rcases List.mem_cons.mp hy with rfl | hy
      · exact Int.le_of_lt h
      · exact h2 y hy
    · rw [if_neg h]
      refine ⟨List.mem_cons_self, fun y hy => ?_⟩
      rcases List.mem_cons.mp hy with rfl | hy
      · exact Int.le_refl _
      · exact Int.le_trans (h2 y hy) (Int.not_lt.mp h)
theorem seqInts {g : Gs} {ms : List Addr} {H : Hp} {st : Sto} {d : D} {ds : List D} {is : List Int} {v : V} (rs : Rs g ms H st) (r : Rl g ms H d v) (h : seqL st d = some ds) (hi : intsOf ds = some is) : ∃ p, v = .ref p ∧ SqL g.K H p (is.map V.int) := by
  obtain ⟨p, vs, rfl, hp, ha⟩ := seqL_ok rs r h
  rw [intsOf_ok hi ha] at hp
  exact ⟨p, rfl, hp⟩
def oMin : F1 (List D) D := fun p st => match p with
  | [.int i, .int j] => some (.int (if j < i then j else i), st)
  | [x] => match seqL st x with
    | some ds => match intsOf ds with
      | some is => if is ≠ [] then some (.int (minL is), st) else none
      | none => none
    | none => none
  | _ => none
def oMax : F1 (List D) D := fun p st => match p with
  | [.int i, .int j] => some (.int (if j > i then j else i), st)
  | [x] => match seqL st x with
    | some ds => match intsOf ds with
      | some is => if is ≠ [] then some (.int (maxL is), st) else none
      | none => none
    | none => none
  | _ => none
theorem opS_min {g : Gs} : OpS g (RlA g) (Rl g) (fun xs H Q => (∃ i j, xs = [.int i, .int j] ∧ Q (.int (if j < i then j else i)) H) ∨ rMin g.K xs H Q) oMin := by
  intro ds st z st' e ms H vs rs hv Q h
  unfold oMin at e
  split at e
  · obtain ⟨v, w, rfl, hv1, hw⟩ := hv.two'
    clear hv
    have hv := hv1
    clear hv1
    cases e
    cases hv
    cases hw
    exact .inl ⟨_, _, rfl, q_here rs h (.int _)⟩
  · obtain ⟨v, rfl, hv1⟩ := hv.one'
    clear hv
    have hv := hv1
    clear hv1
    split at e
    · rename_i es e1
      split at e
      · rename_i is e2
        split at e
        · rename_i hne
          cases e
          obtain ⟨p, rfl, hp⟩ := seqInts rs hv e1 e2
          refine .inr ⟨p, is, rfl, hp, List.length_pos_iff.mpr hne, fun m hm hall => ?_⟩
          obtain ⟨k1, k2⟩ := minL_spec is hne
          rw [show m = minL is from Int.le_antisymm (hall _ k1) (k2 _ hm)]
          exact q_here rs h (.int _)
        · cases e
      · cases e
    · cases e
  · cases e
theorem opS_max {g : Gs} : OpS g (RlA g) (Rl g) (fun xs H Q => (∃ i j, xs = [.int i, .int j] ∧ Q (.int (if j > i then j else i)) H) ∨ rMax g.K xs H Q) oMax := by
  intro ds st z st' e ms H vs rs hv Q h
  unfold oMax at e
  split at e
  · obtain ⟨v, w, rfl, hv1, hw⟩ := hv.two'
    clear hv
    have hv := hv1
    clear hv1
    cases e
    cases hv
    cases hw
    exact .inl ⟨_, _, rfl, q_here rs h (.int _)⟩
  · obtain ⟨v, rfl, hv1⟩ := hv.one'
    clear hv
    have hv := hv1
    clear hv1
    split at e
    · rename_i es e1
      split at e
      · rename_i is e2
        split at e
        · rename_i hne
          cases e
          obtain ⟨p, rfl, hp⟩ := seqInts rs hv e1 e2
          refine .inr ⟨p, is, rfl, hp, List.length_pos_iff.mpr hne, fun m hm hall => ?_⟩
          obtain ⟨k1, k2⟩ := maxL_spec is hne
          rw [show m = maxL is from Int.le_antisymm (k2 _ hm) (hall _ k1)]
          exact q_here rs h (.int _)
        · cases e
      · cases e
    · cases e
  · cases e
/-- isinstance -/
def tyD (st : Sto) : D → Option String
  | .non => some "NoneType"
  | .bl _ => some "bool"
  | .int _ => some "int"
  | .str _ => some "str"
  | .tup _ => some "tuple"
  | .tcon _ => some "tuple"
  | .loc n => match st[n]? with
    | some (.lst _) => some "list"
    | some (.dK _) => some "dict"
    | some (.dT _) => some "dict"
    | none => none
  | _ => none
theorem tyD_ok {g : Gs} {ms : List Addr} {H : Hp} {st : Sto} {d : D} {T : String} {v : V} (rs : Rs g ms H st) (r : Rl g ms H d v) (h : tyD st d = some T) : TyX g.K H v (.type T) := by
  cases r with
  | non => cases h; exact .base .non
  | bl b => cases h; exact .base (.bl b)
  | int b => cases h; exact .base (.int b)
  | str b => cases h; exact .base (.str b)
  | tup hp _ => cases h; exact .base (.tup hp)
  | tcon hp _ => cases h; exact (hp H).2
  | lcon hp _ => cases h
  | @loc n a hm =>
    unfold tyD at h
    simp only at h
    split at h
    · rename_i e
      cases h
      obtain ⟨vs, h1, h2⟩ := rs.at_ _ _ _ e hm
      exact .base (.lst h1)
    · rename_i e
      cases h
      obtain ⟨vs, h1, h2⟩ := rs.at_ _ _ _ e hm
      exact .base (.dK h1)
    · rename_i e
      cases h
      obtain ⟨vs, h1, h2⟩ := rs.at_ _ _ _ e hm
      exact .base (.dT h1)
    · cases h
  | exn _ => cases h
  | fn _ => cases h
  | cl _ => cases h
  | ty _ => cases h
def oIsi : F1 (List D) D := fun p st => match p with
  | [x, .ty T] => match tyD st x with
    | some a => match kitB a T with
      | some b => some (.bl b, st)
      | none => none
    | none => none
  | _ => none
theorem opS_isi {g : Gs} : OpS g (RlA g) (Rl g) (rIsi g.K) oIsi := by
  intro ds st z st' e ms H vs rs hv Q h
  unfold oIsi at e
  split at e
  · obtain ⟨v, w, rfl, hv1, hw⟩ := hv.two'
    clear hv
    have hv := hv1
    clear hv1
    split at e
    · rename_i a e1
      split at e
      · rename_i b e2
        cases e
        cases hw
        exact ⟨v, _, .type a, .type _, b, rfl, .ty _, tyD_ok rs hv e1, kit_ty e2, q_here rs h (.bl _)⟩
      · cases e
    · cases e
  · cases e
/-- tuple(x), list(x) -/
def oTuple : F1 (List D) D := fun p st => match p with
  | [.tup ds] => some (.tup ds, st)
  | [x] => match seqL st x with
    | some ds => some (.tup ds, st)
    | none => none
  | _ => none
theorem opS_tuple {g : Gs} : OpS g (RlA g) (Rl g) (fun xs H Q => ∃ p ys, xs = [.ref p] ∧ ((SqL g.K H p ys ∧ ∀ l, H l = none → Q (.ref l) (upd H l (.tup ys))) ∨ (SqT g.K H p ys ∧ Q (.ref p) H))) oTuple := by
  intro ds st z st' e ms H vs rs hv Q h
  unfold oTuple at e
  split at e
  · obtain ⟨v, rfl, hv1⟩ := hv.one'
    clear hv
    have hv := hv1
    clear hv1
    cases e
    cases hv with
    | tup hp ha => exact ⟨_, _, rfl, .inr ⟨.inl (.inl hp), q_here rs h (.tup hp ha)⟩⟩
  · obtain ⟨v, rfl, hv1⟩ := hv.one'
    clear hv
    have hv := hv1
    clear hv1
    split at e
    · rename_i es e1
      cases e
      obtain ⟨p, us, rfl, hp, ha⟩ := seqL_ok rs hv e1
      refine ⟨p, us, rfl, .inl ⟨hp, fun b hb => ?_⟩⟩
      obtain ⟨fw, rs2⟩ := rs.fresh (o := .tup us) hb
      exact h _ _ _ fw rs2 (.tup upd_same (fw.rlA ha))
    · cases e
  · cases e
def oList : F1 (List D) D := fun p st => match p with
  | [x] => match seqA st x with
    | some ds => some (.loc st.length, st ++ [.lst ds])
    | none => none
  | _ => none
theorem opS_list {g : Gs} : OpS g (RlA g) (Rl g) (fun xs H Q => ∃ p ys, xs = [.ref p] ∧ (SqL g.K H p ys ∨ SqT g.K H p ys) ∧ ∀ l, H l = none → Q (.ref l) (upd H l (.lst ys))) oList := by
  intro ds st z st' e ms H vs rs hv Q h
  unfold oList at e
  split at e
  · obtain ⟨v, rfl, hv1⟩ := hv.one'
    clear hv
    have hv := hv1
    clear hv1
    split at e
    · rename_i es e1
      cases e
      obtain ⟨p, us, rfl, hp, ha⟩ := seqA_ok rs hv e1
      refine ⟨p, us, rfl, hp, fun b hb => ?_⟩
      obtain ⟨fw, rs2, r⟩ := rs.alloc (o := .lst us) (u := .lst _) hb fun f e => ⟨us, e, f.rlA ha⟩
      exact h _ _ _ fw rs2 r
    · cases e
  · cases e
/-- all, any -/
def blsOf : List D → Option (List Bool)
  | [] => some []
  | .bl i :: r => match blsOf r with
    | some is => some (i :: is)
    | none => none
  | _ => none
theorem blsOf_ok {g : Gs} {ms : List Addr} {H : Hp} : ∀ {ds : List D} {is : List Bool} {vs : List V}, blsOf ds = some is → RlA g ms H ds vs → vs = is.map V.bl
  | [], is, vs, h, r => by
    cases r
    unfold blsOf at h
    cases h
    rfl
  | .bl i :: ds, is, vs, h, r => by
    cases r with
    | cons r1 r2 =>
      unfold blsOf at h
      split at h
      · rename_i js e
        cases h
        cases r1
        rw [blsOf_ok e r2]
        rfl
      · cases h
  | .non :: ds, is, vs, h, r => by simp [blsOf] at h
  | .int _ :: ds, is, vs, h, r => by simp [blsOf] at h
  | .str _ :: ds, is, vs, h, r => by simp [blsOf] at h
  | .tup _ :: ds, is, vs, h, r => by simp [blsOf] at h
  | .tcon _ :: ds, is, vs, h, r => by simp [blsOf] at h
  | .lcon _ :: ds, is, vs, h, r => by simp [blsOf] at h
  | .loc _ :: ds, is, vs, h, r => by simp [blsOf] at h
  | .exn _ :: ds, is, vs, h, r => by simp [blsOf] at h
  | .fn _ :: ds, is, vs, h, r => by simp [blsOf] at h
  | .cl _ :: ds, is, vs, h, r => by simp [blsOf] at h
  | .ty _ :: ds, is, vs, h, r => by simp [blsOf] at h
def oAll : F1 (List D) D := fun p st => match p with
  | [x] => match seqL st x with
    | some ds => match blsOf ds with
      | some bs => some (.bl (bs.all id), st)
      | none => none
    | none => none
  | _ => none
theorem opS_all {g : Gs} : OpS g (RlA g) (Rl g) (rAll g.K) oAll := by
  intro ds st z st' e ms H vs rs hv Q h
  unfold oAll at e
  split at e
  · obtain ⟨v, rfl, hv1⟩ := hv.one'
    clear hv
    have hv := hv1
    clear hv1
    split at e
    · rename_i es e1
      split at e
      · rename_i bs e2
        cases e
        obtain ⟨p, us, rfl, hp, ha⟩ := seqL_ok rs hv e1
        rw [blsOf_ok e2 ha] at hp
        exact ⟨p, bs, rfl, hp, q_here rs h (.bl _)⟩
      · cases e
    · cases e
  · cases e
def oAny : F1 (List D) D := fun p st => match p with
  | [x] => match seqL st x with
    | some ds => match blsOf ds with
      | some bs => some (.bl (bs.any id), st)
      | none => none
    | none => none
  | _ => none
theorem opS_any {g : Gs} : OpS g (RlA g) (Rl g) (rAny g.K) oAny := by
  intro ds st z st' e ms H vs rs hv Q h
  unfold oAny at e
  split at e
  · obtain ⟨v, rfl, hv1⟩ := hv.one'
    clear hv
    have hv := hv1
    clear hv1
    split at e
    · rename_i es e1
      split at e
      · rename_i bs e2
        cases e
        obtain ⟨p, us, rfl, hp, ha⟩ := seqL_ok rs hv e1
        rw [blsOf_ok e2 ha] at hp
        exact ⟨p, bs, rfl, hp, q_here rs h (.bl _)⟩
      · cases e
    · cases e
  · cases e
/-- sorted: ints of any number, texts below 64 -/
def isort : List Int → List Int := fun l => l.mergeSort (fun a b => decide (a ≤ b))
theorem isort_perm (l : List Int) : (isort l).Perm l := List.mergeSort_perm _ _
theorem isort_sorted (l : List Int) : (isort l).Pairwise (· ≤ ·) := by
  have h := List.pairwise_mergeSort (le := fun a b : Int => decide (a ≤ b)) (fun a b c h1 h2 => by simp only [decide_eq_true_eq] at *; omega) (fun a b => by simp only [Bool.or_eq_true, decide_eq_true_eq]; omega) l
  exact h.imp fun h => of_decide_eq_true h
theorem isort_unique {l l' : List Int} (h1 : l'.Perm l) (h2 : l'.Pairwise (· ≤ ·)) : l' = isort l :=
  (h1.trans (isort_perm l).symm).eq_of_pairwise (fun x y _ _ h1 h2 => Int.le_antisymm h1 h2) h2 (isort_sorted l)
def oSorted : F1 (List D) D := fun p st => match p with
  | [x] => match seqL st x with
    | some ds => match intsOf ds with
      | some is => some (.loc st.length, st ++ [.lst ((isort is).map D.int)])
      | none => none
    | none => none
  | _ => none
theorem rlA_ints {g : Gs} {ms : List Addr} {H : Hp} : ∀ is : List Int, RlA g ms H (is.map D.int) (is.map V.int)
  | [] => .nil
  | i :: r => .cons (.int i) (rlA_ints r)
theorem opS_sorted {g : Gs} : OpS g (RlA g) (Rl g) (rSortedI g.K) oSorted := by
  intro ds st z st' e ms H vs rs hv Q h
  unfold oSorted at e
  split at e
  · obtain ⟨v, rfl, hv1⟩ := hv.one'
    clear hv
    have hv := hv1
    clear hv1
    split at e
    · rename_i es e1
      split at e
      · rename_i is e2
        cases e
        obtain ⟨p, rfl, hp⟩ := seqInts rs hv e1 e2
        refine ⟨p, is, rfl, hp, fun ns' b k1 k2 hb => ?_⟩
        rw [isort_unique k1 k2]
        obtain ⟨fw, rs2, r⟩ := rs.alloc (o := .lst ((isort is).map V.int)) (u := .lst ((isort is).map D.int)) hb fun f e => ⟨_, e, rlA_ints _⟩
        exact h _ _ _ fw rs2 r
      · cases e
    · cases e
  · cases e
/-- str of an int -/
def oStrI : F1 (List D) D := fun p st => match p with
  | [.int i] => if i.natAbs.log2 < 1920 then some (.str (toString i), st) else none
  | _ => none
theorem opS_strI {g : Gs} : OpS g (RlA g) (Rl g) (fun xs H Q => ∃ i, xs = [.int i] ∧ i.natAbs.log2 < 1920 ∧ Q (.str (toString i)) H) oStrI := by
  intro ds st z st' e ms H vs rs hv Q h
  unfold oStrI at e
  split at e
  · obtain ⟨v, rfl, hv1⟩ := hv.one'
    clear hv
    have hv := hv1
    clear hv1
    split at e
    · rename_i hl
      cases e
      cases hv
      exact ⟨_, rfl, hl, q_here rs h (.str _)⟩
    · cases e
  · cases e
section
variable {c : Cxt} {a b e : Expr} {es : List Expr} {fa fb : F3 D} {fr : F3 (List D)} {pos p p2 : Pos}
theorem simE_len (hg : glB c.sc "len" = true) (hm : c.g.mg "len" = none) (ha : SimA c (e :: es) fr) (hp : plainA (e :: es) = true := by rfl) : SimE c (.Call (.Name "len" p) (e :: es) [] pos) (fArgs oLen fr) := simE_callB (fun X o => by rw [← o.K]; exact CallR.or call_len_seq call_len_str) opS_len hg hm PySem.boot_len ha hp
theorem simE_abs (hg : glB c.sc "abs" = true) (hm : c.g.mg "abs" = none) (ha : SimA c (e :: es) fr) (hp : plainA (e :: es) = true := by rfl) : SimE c (.Call (.Name "abs" p) (e :: es) [] pos) (fArgs oAbs fr) := simE_callB (fun X o => call_abs) opS_abs hg hm (by decide +kernel) ha hp
theorem simE_min (hg : glB c.sc "min" = true) (hm : c.g.mg "min" = none) (ha : SimA c (e :: es) fr) (hp : plainA (e :: es) = true := by rfl) : SimE c (.Call (.Name "min" p) (e :: es) [] pos) (fArgs oMin fr) := simE_callB (fun X o => by rw [← o.K]; exact CallR.or (call_min2 o.calm) (cr_min o.calm)) opS_min hg hm (by decide +kernel) ha hp
theorem simE_max (hg : glB c.sc "max" = true) (hm : c.g.mg "max" = none) (ha : SimA c (e :: es) fr) (hp : plainA (e :: es) = true := by rfl) : SimE c (.Call (.Name "max" p) (e :: es) [] pos) (fArgs oMax fr) := simE_callB (fun X o => by rw [← o.K]; exact CallR.or (call_max2 o.calm) (cr_max o.calm)) opS_max hg hm (by decide +kernel) ha hp
theorem simE_intOf (hg : glB c.sc "int" = true) (hm : c.g.mg "int" = none) (ha : SimA c (e :: es) fr) (hp : plainA (e :: es) = true := by rfl) : SimE c (.Call (.Name "int" p) (e :: es) [] pos) (fArgs oInt1 fr) := simE_callTy (fun X o => call_int1) opS_int1 hg hm (by decide +kernel) ha hp
theorem simE_isi (hg : glB c.sc "isinstance" = true) (hm : c.g.mg "isinstance" = none) (ha : SimA c (e :: es) fr) (hp : plainA (e :: es) = true := by rfl) : SimE c (.Call (.Name "isinstance" p) (e :: es) [] pos) (fArgs oIsi fr) := simE_callB (fun X o => by rw [← o.K]; exact call_isi) opS_isi hg hm (by decide +kernel) ha hp
theorem simE_tupleOf (hg : glB c.sc "tuple" = true) (hm : c.g.mg "tuple" = none) (ha : SimA c (e :: es) fr) (hp : plainA (e :: es) = true := by rfl) : SimE c (.Call (.Name "tuple" p) (e :: es) [] pos) (fArgs oTuple fr) := simE_callTy (fun X o => by rw [← o.K]; exact call_tuple_of) opS_tuple hg hm (by decide +kernel) ha hp
theorem simE_listOf (hg : glB c.sc "list" = true) (hm : c.g.mg "list" = none) (ha : SimA c (e :: es) fr) (hp : plainA (e :: es) = true := by rfl) : SimE c (.Call (.Name "list" p) (e :: es) [] pos) (fArgs oList fr) := simE_callTy (fun X o => by rw [← o.K]; exact call_list_of) opS_list hg hm (by decide +kernel) ha hp
theorem simE_all (hg : glB c.sc "all" = true) (hm : c.g.mg "all" = none) (ha : SimA c (e :: es) fr) (hp : plainA (e :: es) = true := by rfl) : SimE c (.Call (.Name "all" p) (e :: es) [] pos) (fArgs oAll fr) := simE_callB (fun X o => by rw [← o.K]; exact cr_all o.calm) opS_all hg hm (by decide +kernel) ha hp
theorem simE_any (hg : glB c.sc "any" = true) (hm : c.g.mg "any" = none) (ha : SimA c (e :: es) fr) (hp : plainA (e :: es) = true := by rfl) : SimE c (.Call (.Name "any" p) (e :: es) [] pos) (fArgs oAny fr) := simE_callB (fun X o => by rw [← o.K]; exact cr_any o.calm) opS_any hg hm (by decide +kernel) ha hp
theorem simE_sorted (hg : glB c.sc "sorted" = true) (hm : c.g.mg "sorted" = none) (ha : SimA c (e :: es) fr) (hp : plainA (e :: es) = true := by rfl) : SimE c (.Call (.Name "sorted" p) (e :: es) [] pos) (fArgs oSorted fr) := simE_callB (fun X o => by rw [← o.K]; exact cr_sortedI) opS_sorted hg hm (by decide +kernel) ha hp
theorem simE_strOf (hg : glB c.sc "str" = true) (hm : c.g.mg "str" = none) (ha : SimA c (e :: es) fr) (hp : plainA (e :: es) = true := by rfl) : SimE c (.Call (.Name "str" p) (e :: es) [] pos) (fArgs oStrI fr) := simE_callTy (fun X o => call_str_int) opS_strI hg hm (by decide +kernel) ha hp
end
end S3

set_option maxHeartbeats 2000000
/-! S3F: dicts, methods of lists, stores into things. -/
namespace S3
open PySem PySem.Spec PyProof.Rows L2

/-! ### keys, look-up, put -/
def keyK : D → Option Key
  | .int i => some (.inl i)
  | .str x => some (.inr x)
  | _ => none
def keyT : D → Option (List Key)
  | .tup ds => mapO keyK ds
  | _ => none
theorem keyK_ok {g : Gs} {ms : List Addr} {H : Hp} {d : D} {k : Key} {v : V} (r : Rl g ms H d v) (h : keyK d = some k) : v = kV k := by
  unfold keyK at h
  split at h <;> first | (cases h; cases r; rfl) | cases h
theorem keyA_ok {g : Gs} {ms : List Addr} {H : Hp} : ∀ {ds : List D} {ks : List Key} {vs : List V}, RlA g ms H ds vs → mapO keyK ds = some ks → vs = ks.map kV
  | [], ks, vs, r, h => by
    cases r
    cases h
    rfl
  | d :: ds, ks, vs, r, h => by
    cases r with
    | cons r1 r2 =>
      unfold mapO at h
      split at h
      · rename_i e1 e2
        cases h
        rw [keyK_ok r1 e1, keyA_ok r2 e2]
        rfl
      · cases h
theorem keyT_ok {g : Gs} {ms : List Addr} {H : Hp} {d : D} {k : List Key} {v : V} (r : Rl g ms H d v) (h : keyT d = some k) : ∃ b, v = .ref b ∧ H b = some (.tup (k.map kV)) := by
  unfold keyT at h
  split at h
  · cases r with
    | tup hp ha => exact ⟨_, rfl, by rw [hp, keyA_ok ha h]⟩
  · cases h
section
variable {κ α : Type} [DecidableEq κ]
def valG (kvs : List (κ × α)) (k : κ) : Option α := (kvs.find? fun kv => decide (kv.1 = k)).map (·.2)
def putG (kvs : List (κ × α)) (k : κ) (v : α) : List (κ × α) := if (kvs.any fun kv => decide (kv.1 = k)) = true then kvs.map (fun kv => if kv.1 = k then (kv.1, v) else kv) else kvs ++ [(k, v)]
end
def mergeG {α : Type} (kvs more : List (Key × α)) : List (Key × α) := more.foldl (fun acc kv => putG acc kv.1 kv.2) kvs
section
variable {g : Gs} {ms : List Addr} {H : Hp} {κ : Type} [DecidableEq κ]
theorem RKv.length {ks : List (κ × D)} {vs : List (κ × V)} (r : RKv g ms H ks vs) : ks.length = vs.length := Paired.length r
theorem RKv.val : ∀ {ks : List (κ × D)} {vs : List (κ × V)} (k : κ), RKv g ms H ks vs → (valG ks k = none ∧ valV vs k = none) ∨ ∃ d v, valG ks k = some d ∧ valV vs k = some v ∧ Rl g ms H d v
  | _, _, k, .nil => .inl ⟨rfl, rfl⟩
  | p :: ks, q :: vs, k, .cons r t => by
    by_cases e : p.1 = k
    · refine .inr ⟨p.2, q.2, ?_, ?_, r.2⟩
      · simp [valG, List.find?_cons, e]
      · exact valV_pos (r.1 ▸ e)
    · have e2 : ¬ q.1 = k := fun z => e (r.1.trans z)
      have h1 : valG (p :: ks) k = valG ks k := by simp [valG, List.find?_cons, e]
      rw [h1, valV_neg e2]
      exact RKv.val k t
theorem RKv.any (k : κ) : ∀ {ks : List (κ × D)} {vs : List (κ × V)}, RKv g ms H ks vs → (ks.any fun kv => decide (kv.1 = k)) = (vs.any fun kv => decide (kv.1 = k))
  | _, _, .nil => rfl
  | p :: ks, q :: vs, .cons r t => by
    rw [List.any_cons, List.any_cons, r.1, RKv.any k t]
theorem RKv.map (k : κ) {d : D} {v : V} (hr : Rl g ms H d v) : ∀ {ks : List (κ × D)} {vs : List (κ × V)}, RKv g ms H ks vs → RKv g ms H (ks.map fun kv => if kv.1 = k then (kv.1, d) else kv) (vs.map fun kv => if kv.1 = k then (kv.1, v) else kv)
  | _, _, .nil => .nil
  | p :: ks, q :: vs, .cons r t => by
    rw [List.map_cons, List.map_cons]
    refine .cons ?_ (RKv.map k hr t)
    by_cases e : p.1 = k
    · rw [if_pos e, if_pos (r.1 ▸ e)]
      exact ⟨r.1, hr⟩
    · rw [if_neg e, if_neg fun z => e (r.1.trans z)]
      exact r
theorem RKv.snoc {d : D} {v : V} (hr : Rl g ms H d v) (k : κ) : ∀ {ks : List (κ × D)} {vs : List (κ × V)}, RKv g ms H ks vs → RKv g ms H (ks ++ [(k, d)]) (vs ++ [(k, v)])
  | _, _, .nil => .cons ⟨rfl, hr⟩ .nil
  | p :: ks, q :: vs, .cons r t => .cons r (RKv.snoc hr k t)
theorem RKv.put {ks : List (κ × D)} {vs : List (κ × V)} {d : D} {v : V} (k : κ) (r : RKv g ms H ks vs) (hr : Rl g ms H d v) : RKv g ms H (putG ks k d) (putK vs k v) := by
  unfold putG putK
  rw [r.any k]
  by_cases h : (vs.any fun kv => decide (kv.1 = k)) = true
  · rw [if_pos h, if_pos h]
    exact r.map k hr
  · rw [if_neg h, if_neg h]
    exact r.snoc hr k
end
/-- what a dict holds at a key -/
def dget (st : Sto) (d k : D) : Option (Option D) := match d with
  | .loc n => match st[n]? with
    | some (.dK kvs) => match keyK k with
      | some key => some (valG kvs key)
      | none => none
    | some (.dT kvs) => match keyT k with
      | some key => some (valG kvs key)
      | none => none
    | _ => none
  | _ => none
theorem dget_ok {g : Gs} {ms : List Addr} {H : Hp} {st : Sto} {d k : D} {o : Option D} {vd vk : V} (rs : Rs g ms H st) (rd : Rl g ms H d vd) (rk : Rl g ms H k vk) (h : dget st d k = some o) :
    ∃ a ov, vd = .ref a ∧ DGet H a vk ov ∧ ((o = none ∧ ov = none) ∨ ∃ e v, o = some e ∧ ov = some v ∧ Rl g ms H e v) := by
  unfold dget at h
  split at h
  · split at h
    · rename_i kvs e0
      split at h
      · rename_i key ek
        cases h
        cases rd with
        | loc hm =>
          obtain ⟨vs, h1, h2⟩ := rs.at_ _ _ _ e0 hm
          rw [keyK_ok rk ek]
          rcases h2.val key with ⟨z1, z2⟩ | ⟨d, v, z1, z2, z3⟩
          · exact ⟨_, none, rfl, .inl ⟨vs, key, .inl h1, rfl, z2.symm⟩, .inl ⟨z1, rfl⟩⟩
          · exact ⟨_, some v, rfl, .inl ⟨vs, key, .inl h1, rfl, z2.symm⟩, .inr ⟨d, v, z1, rfl, z3⟩⟩
      · cases h
    · rename_i kvs e0
      split at h
      · rename_i key ek
        cases h
        cases rd with
        | loc hm =>
          obtain ⟨vs, h1, h2⟩ := rs.at_ _ _ _ e0 hm
          obtain ⟨b, rfl, hb⟩ := keyT_ok rk ek
          rcases h2.val key with ⟨z1, z2⟩ | ⟨d, v, z1, z2, z3⟩
          · exact ⟨_, none, rfl, .inr ⟨vs, key, b, .inl h1, rfl, hb, z2.symm⟩, .inl ⟨z1, rfl⟩⟩
          · exact ⟨_, some v, rfl, .inr ⟨vs, key, b, .inl h1, rfl, hb, z2.symm⟩, .inr ⟨d, v, z1, rfl, z3⟩⟩
      · cases h
    · cases h
  · cases h
def oDget : F1 (D × D) D := fun p st => match dget st p.1 p.2 with
  | some (some d) => some (d, st)
  | _ => none
theorem opS_dget {g : Gs} : OpS g (Rl2 g) (Rl g) (fun p H Q => ∃ a v, p.1 = .ref a ∧ DGet H a p.2 (some v) ∧ Q v H) oDget := by
  rintro ⟨x, y⟩ st z st' e ms H ⟨vx, vy⟩ rs ⟨hx, hy⟩ Q h
  unfold oDget at e
  split at e
  · rename_i d e1
    cases e
    obtain ⟨a, ov, rfl, hg, z⟩ := dget_ok rs hx hy e1
    rcases z with ⟨z, _⟩ | ⟨e, v, z1, rfl, z2⟩
    · cases z
    · cases z1
      exact ⟨a, v, rfl, hg, q_here rs h z2⟩
  · cases e
/-- the dict stands behind -/
def oDin (neg : Bool) : F1 (D × D) D := fun p st => match dget st p.2 p.1 with
  | some o => some (.bl (if neg then !o.isSome else o.isSome), st)
  | none => none
theorem opS_din {g : Gs} : OpS g (Rl2 g) (Rl g) (fun p H Q => ∃ a o, p.2 = .ref a ∧ DGet H a p.1 o ∧ Q (.bl o.isSome) H) (oDin false) := by
  rintro ⟨x, y⟩ st z st' e ms H ⟨vx, vy⟩ rs ⟨hx, hy⟩ Q h
  unfold oDin at e
  split at e
  · rename_i o e1
    cases e
    obtain ⟨a, ov, rfl, hg, z⟩ := dget_ok rs hy hx e1
    rcases z with ⟨rfl, rfl⟩ | ⟨e, v, rfl, rfl, z2⟩
    · exact ⟨a, none, rfl, hg, q_here rs h (.bl _)⟩
    · exact ⟨a, some v, rfl, hg, q_here rs h (.bl _)⟩
  · cases e
theorem opS_dnotin {g : Gs} : OpS g (Rl2 g) (Rl g) (fun p H Q => ∃ a o, p.2 = .ref a ∧ DGet H a p.1 o ∧ Q (.bl (!o.isSome)) H) (oDin true) := by
  rintro ⟨x, y⟩ st z st' e ms H ⟨vx, vy⟩ rs ⟨hx, hy⟩ Q h
  unfold oDin at e
  split at e
  · rename_i o e1
    cases e
    obtain ⟨a, ov, rfl, hg, z⟩ := dget_ok rs hy hx e1
    rcases z with ⟨rfl, rfl⟩ | ⟨e, v, rfl, rfl, z2⟩
    · exact ⟨a, none, rfl, hg, q_here rs h (.bl _)⟩
    · exact ⟨a, some v, rfl, hg, q_here rs h (.bl _)⟩
  · cases e
section
variable {c : Cxt} {a b e : Expr} {es : List Expr} {fa fb fc : F3 D} {fr : F3 (List D)} {pos p p2 apos cpos : Pos}
theorem simE_dget (ha : SimE c a fa) (hb : SimE c b fb) (hs : NoSl b := by intro _ _; rfl) : SimE c (.Subscript a b pos) (fB oDget fa fb) := by
  obtain ⟨ta, pa, ra⟩ := ha
  obtain ⟨tb, pb, rb⟩ := hb
  exact ⟨tDGet ta tb, fun X o => pe_dget o.hu (pa X o) (pb X o) hs, ra.op2 (r := fun x y H Q => ∃ a v, x = .ref a ∧ DGet H a y (some v) ∧ Q v H) rb opS_dget⟩
theorem simE_din (ha : SimE c a fa) (hb : SimE c b fb) (hm : behindInMarks .In b = false := by with_unfolding_all rfl) : SimE c (.Compare a [.In] [b] pos) (fB (oDin false) fa fb) := by
  obtain ⟨ta, pa, ra⟩ := ha
  obtain ⟨tb, pb, rb⟩ := hb
  exact ⟨tDIn ta tb, fun X o => pe_cmp (pc_din o.hu (pa X o) (pb X o)) hm, ra.op2 (r := fun x y H Q => ∃ a o, y = .ref a ∧ DGet H a x o ∧ Q (.bl o.isSome) H) rb opS_din⟩
theorem simT_din (ha : SimE c a fa) (hb : SimE c b fb) (hm : behindInMarks .In b = false := by with_unfolding_all rfl) : SimT c (.Compare a [.In] [b] pos) (bnd (fB (oDin false) fa fb) asB) := by
  obtain ⟨ta, pa, ra⟩ := ha
  obtain ⟨tb, pb, rb⟩ := hb
  exact ⟨tB (tDIn ta tb), fun X o => pt_cmp (pc_din o.hu (pa X o) (pb X o)) hm, (ra.op2 (r := fun x y H Q => ∃ a o, y = .ref a ∧ DGet H a x o ∧ Q (.bl o.isSome) H) rb opS_din).tB⟩
theorem simT_dnin (ha : SimE c a fa) (hb : SimE c b fb) (hm : behindInMarks .NotIn b = false := by with_unfolding_all rfl) : SimT c (.Compare a [.NotIn] [b] pos) (bnd (fB (oDin true) fa fb) asB) := by
  obtain ⟨ta, pa, ra⟩ := ha
  obtain ⟨tb, pb, rb⟩ := hb
  exact ⟨tB (tDNotIn ta tb), fun X o => pt_cmp (pc_dnotin o.hu (pa X o) (pb X o)) hm, (ra.op2 (r := fun x y H Q => ∃ a o, y = .ref a ∧ DGet H a x o ∧ Q (.bl (!o.isSome)) H) rb opS_dnotin).tB⟩
/-- new dicts -/
def fNewK : F3 D := fun _ st => some (.ok (.loc st.length), st ++ [.dK []])
def fNewT : F3 D := fun _ st => some (.ok (.loc st.length), st ++ [.dT []])
theorem simE_newK : SimE c (.Dict [] [] pos) fNewK := by
  refine ⟨tDNewK, fun X o => pe_dnewK, ?_⟩
  intro env st r st' e ms σ H rs re Q hq p hp
  cases e
  obtain ⟨fw, rs2, q⟩ := rs.alloc (o := .dK []) (u := .dK []) hp fun f e => ⟨[], e, .nil⟩
  exact hq _ _ fw rs2 _ q
theorem simE_newT : SimE c (.Dict [] [] pos) fNewT := by
  refine ⟨tDNewT, fun X o => pe_dnewT, ?_⟩
  intro env st r st' e ms σ H rs re Q hq p hp
  cases e
  obtain ⟨fw, rs2, q⟩ := rs.alloc (o := .dT []) (u := .dT []) hp fun f e => ⟨[], e, .nil⟩
  exact hq _ _ fw rs2 _ q
/-- a display -/
abbrev RlP (g : Gs) (ms : List Addr) (H : Hp) : List (D × D) → List (V × V) → Prop := Paired fun p q => Rl g ms H p.1 q.1 ∧ Rl g ms H p.2 q.2
def SimP (c : Cxt) (pos : Pos) (ks : List (Option Expr)) (vs : List Expr) (f : F3 (List (D × D))) : Prop := ∃ trs : List (TE × TE), (∀ X, OkX c X → PPs X pos ks vs trs) ∧ Rd c.g c.E (RlP c.g) (tPairs trs) f
def fPairNil : F3 (List (D × D)) := ret3 []
def fPair (fk fv : F3 D) (fr : F3 (List (D × D))) : F3 (List (D × D)) := bnd fk fun k => bnd fv fun v => bnd fr fun r => ret3 ((k, v) :: r)
theorem simP_nil : SimP c pos [] [] fPairNil := ⟨[], fun X o => pps_nil, Rd.ret (fun _ _ => .nil) fun _ _ _ h => by cases h; rfl⟩
theorem simP_cons {ks : List (Option Expr)} {vs : List Expr} {fp : F3 (List (D × D))} (ha : SimE c a fa) (hb : SimE c b fb) (h : SimP c pos ks vs fp) : SimP c pos (some a :: ks) (b :: vs) (fPair fa fb fp) := by
  obtain ⟨ta, pa, ra⟩ := ha
  obtain ⟨tb, pb, rb⟩ := hb
  obtain ⟨tr, pr, rr⟩ := h
  refine ⟨(ta, tb) :: tr, fun X o => pps_cons (pa X o) (pb X o) (pr X o), ?_⟩
  intro env st r st' e ms σ H rs re Q hq
  refine ra.bind e rs re (fun x st1 ms1 H1 fw1 rs1 re1 e1 v hv => ?_) fun c ms1 H1 er fw rs1 => out_er hq er fw rs1
  refine rb.bind e1 rs1 re1 (fun y st2 ms2 H2 fw2 rs2 re2 e2 w hw => ?_) fun c ms2 H2 er fw2 rs2 => out_er hq er (fw1.trans fw2) rs2
  refine rr.bind e2 rs2 re2 (fun z st3 ms3 H3 fw3 rs3 re3 e3 u hu => ?_) fun c ms3 H3 er fw3 rs3 => out_er hq er ((fw1.trans fw2).trans fw3) rs3
  cases e3
  exact hq ms3 H3 ((fw1.trans fw2).trans fw3) rs3 _ (.cons ⟨(fw2.trans fw3).rl hv, fw3.rl hw⟩ hu)
def keysP : List (D × D) → Option (List (Key × D))
  | [] => some []
  | (k, v) :: r => match keyK k, keysP r with
    | some key, some rest => some ((key, v) :: rest)
    | _, _ => none
theorem keysP_ok {g : Gs} {ms : List Addr} {H : Hp} : ∀ {ps : List (D × D)} {kvs : List (Key × D)} {qs : List (V × V)}, keysP ps = some kvs → RlP g ms H ps qs → ∃ us, qs = us.map (fun kv => (kV kv.1, kv.2)) ∧ RKv g ms H kvs us
  | [], kvs, qs, h, r => by
    cases r
    cases h
    exact ⟨[], rfl, .nil⟩
  | (k, v) :: ps, kvs, qs, h, r => by
    cases r with
    | @cons _ q _ qs r1 r2 =>
      unfold keysP at h
      split at h
      · rename_i key rest e1 e2
        cases h
        obtain ⟨us, rfl, h2⟩ := keysP_ok e2 r2
        refine ⟨(key, q.2) :: us, ?_, .cons ⟨rfl, r1.2⟩ h2⟩
        have e3 := keyK_ok r1.1 e1
        rw [List.map_cons]
        congr 1
        exact Prod.ext e3 rfl
      · cases h
theorem RKv.merge {g : Gs} {ms : List Addr} {H : Hp} : ∀ {more : List (Key × D)} {us : List (Key × V)} {ks : List (Key × D)} {vs : List (Key × V)}, RKv g ms H more us → RKv g ms H ks vs → RKv g ms H (mergeG ks more) (mergeK vs us)
  | _, _, ks, vs, .nil, r => r
  | (k, d) :: more, (k2, u) :: us, ks, vs, .cons h t, r => by
    have hk : k = k2 := h.1
    subst hk
    exact @RKv.merge g ms H more us (putG ks k d) (putK vs k u) t (r.put k h.2)
def fDisp (fp : F3 (List (D × D))) : F3 D := fun env st => match fp env (st ++ [.dK []]) with
  | some (.ok ps, st1) => match st1[st.length]? with
    | some (.dK []) => match keysP ps with
      | some kvs => if kvs.length ≤ 15 then some (.ok (.loc st.length), st1.set st.length (.dK (mergeG [] kvs))) else none
      | none => none
    | _ => none
  | _ => none
theorem simE_disp {ks : List (Option Expr)} {vs : List Expr} {fp : F3 (List (D × D))} (h : SimP c pos ks vs fp) (hall : ks.all (·.isSome) = true := by rfl) (hl : ks.length = vs.length := by rfl) (h0 : ks ≠ [] := by intro z; cases z) (h15 : ks.length ≤ 15 := by decide) : SimE c (.Dict ks vs pos) (fDisp fp) := by
  obtain ⟨tr, pr, rr⟩ := h
  refine ⟨tDisp tr, fun X o => pe_disp (pr X o) hall hl h0 h15, ?_⟩
  intro env st r st' e ms σ H rs re Q hq p hp
  unfold fDisp at e
  split at e
  · rename_i ps st1 e1
    split at e
    · rename_i e2
      split at e
      · rename_i kvs e3
        split at e
        · rename_i hle
          cases e
          obtain ⟨fw, rs1, q⟩ := rs.alloc (o := .dK []) (u := .dK []) hp fun f e => ⟨[], e, .nil⟩
          refine rr env _ _ _ e1 (ms ++ [p]) σ (upd H p (.dK [])) rs1 (re.mono fw) _ fun ms2 H2 fw2 rs2 qs hqs => ?_
          have hpm : ms2[st.length]? = some p := by
            obtain ⟨t, rfl⟩ := fw2.ms
            rw [← rs.len, List.append_assoc, List.getElem?_append_right (Nat.le_refl _), Nat.sub_self]
            rfl
          obtain ⟨vs2, h1, h2⟩ := rs2.at_ _ _ _ e2 hpm
          cases h2
          obtain ⟨us, rfl, hus⟩ := keysP_ok e3 hqs
          refine ⟨h1, us, rfl, by rw [← hus.length]; exact hle, ?_⟩
          obtain ⟨fw3, rs3⟩ := rs2.put (o := .dK (mergeK [] us)) (u := .dK (mergeG [] kvs)) e2 hpm fun f e => ⟨_, e, (hus.mono f).merge .nil⟩
          exact hq _ _ ((fw.trans fw2).trans fw3) rs3 _ (.loc hpm)
        · cases e
      · cases e
    · cases e
  · cases e
/-- d.get(k), d.get(k, x) -/
def oDget1 : F1 (D × D) D := fun p st => match dget st p.1 p.2 with
  | some o => some (o.getD .non, st)
  | none => none
def isD3 (st : Sto) (d : D) : Bool := match d with
  | .loc n => match st[n]? with
    | some (.dK _) => true
    | some (.dT _) => true
    | _ => false
  | _ => false
theorem isD3_ok {g : Gs} {ms : List Addr} {H : Hp} {st : Sto} {d : D} {v : V} (rs : Rs g ms H st) (r : Rl g ms H d v) (h : isD3 st d = true) : ∃ a, v = .ref a ∧ IsD H a := by
  unfold isD3 at h
  split at h
  · split at h
    · rename_i e
      cases r with
      | loc hm =>
        obtain ⟨vs, h1, _⟩ := rs.at_ _ _ _ e hm
        exact ⟨_, rfl, .inl ⟨_, .inl h1⟩⟩
    · rename_i e
      cases r with
      | loc hm =>
        obtain ⟨vs, h1, _⟩ := rs.at_ _ _ _ e hm
        exact ⟨_, rfl, .inr ⟨_, .inl h1⟩⟩
    · cases h
  · cases h
def fDget1 (fa fb : F3 D) : F3 D := bnd fa fun x env st => if isD3 st x = true then bnd fb (fun y => lift oDget1 (x, y)) env st else none
theorem few_ok {pos : Pos} {env : Env} {es : List Expr} (h : plainA es = true) (hl : es.length + 0 + 0 < 30) : ((backTo pos (starEach es env)).all (fun x => !x.1) && (backToKw pos (keywordEach [] env)).all (fun x => x.1.isSome) && decide (es.length + ([] : List Keyword).length + (if ([] : List Keyword).isEmpty then 0 else 1) < 30)) = true := by
  rw [star_all h]
  have : decide (es.length + ([] : List Keyword).length + (if ([] : List Keyword).isEmpty then 0 else 1) < 30) = true := decide_eq_true hl
  rw [this]
  rfl
theorem simE_dget1 (ha : SimE c a fa) (hb : SimE c b fb) (hbase : ∀ env : Env, attributeBase a "get" env (eval a env) = eval a env := by intro _; rfl) (hp : plainE b = true := by rfl) (hl : (apos.endLine == cpos.line) = true := by rfl) : SimE c (.Call (.Attribute a "get" apos) [b] [] cpos) (fDget1 fa fb) := by
  obtain ⟨ta, pa, ra⟩ := ha
  obtain ⟨tb, pb, rb⟩ := hb
  refine ⟨tDGet1 ta tb, fun X o => pe_dget1 o.hu (pa X o) (pb X o) ⟨hbase _, few_ok (by unfold plainA; rw [hp]; rfl) (show 1 < 30 by decide), hl, by rw [starEach_plain hp]; rfl⟩, ?_⟩
  intro env st r st' e ms σ H rs re Q hq
  refine ra.bind e rs re (fun x st1 ms1 H1 fw1 rs1 re1 e1 v hv => ?_) fun c ms1 H1 er fw rs1 => out_er hq er fw rs1
  split at e1
  · rename_i hd
    obtain ⟨p, rfl, hD⟩ := isD3_ok rs1 hv hd
    refine ⟨p, rfl, hD, ?_⟩
    refine rb.bind e1 rs1 re1 (fun y st2 ms2 H2 fw2 rs2 re2 e2 w hw => ?_) fun c ms2 H2 er fw2 rs2 => out_er hq er (fw1.trans fw2) rs2
    unfold lift oDget1 at e2
    split at e2
    · rename_i z st3 hz
      cases e2
      split at hz
      · rename_i o e3
        cases hz
        obtain ⟨a', ov, ea, hg, z⟩ := dget_ok rs2 (fw2.rl hv) hw e3
        cases ea
        rcases z with ⟨rfl, rfl⟩ | ⟨e, v, rfl, rfl, z2⟩
        · exact ⟨none, hg, hq ms2 H2 (fw1.trans fw2) rs2 _ .non⟩
        · exact ⟨some v, hg, hq ms2 H2 (fw1.trans fw2) rs2 _ z2⟩
      · cases hz
    · cases e2
  · cases e1

/-! ### methods of lists -/
def fMeth (o : F1 (D × List D) D) (fa : F3 D) (fr : F3 (List D)) : F3 D := bnd fa fun x env st => match seqL st x with
  | some _ => bnd fr (fun ys => lift o (x, ys)) env st
  | none => none
abbrev RlM (g : Gs) (ms : List Addr) (H : Hp) (p : D × List D) (q : V × List V) : Prop := Rl g ms H p.1 q.1 ∧ RlA g ms H p.2 q.2
theorem rd_meth {g : Gs} {E : XK} {to : TE} {t : TA} {r : V → List V → Hp → VK → Prop} {o : F1 (D × List D) D} (ho : OpS g (RlM g) (Rl g) (fun p H Q => r p.1 p.2 H Q) o) (ha : Rd g E (Rl g) to fa) (hr : Rd g E (RlA g) t fr) : Rd g E (Rl g) (tBM g.K "list" r to t) (fMeth o fa fr) := by
  intro env st rr st' e ms σ H rs re Q hq
  refine ha.bind e rs re (fun x st1 ms1 H1 fw1 rs1 re1 e1 v hv => ?_) fun c ms1 H1 er fw rs1 => out_er hq er fw rs1
  split at e1
  · rename_i ds hd
    obtain ⟨p, vs, rfl, hp, hvs⟩ := seqL_ok rs1 hv hd
    refine ⟨.inl ⟨rfl, vs, hp⟩, ?_⟩
    refine hr.bind e1 rs1 re1 (fun ys st2 ms2 H2 fw2 rs2 re2 e2 us hus => ?_) fun c ms2 H2 er fw2 rs2 => out_er hq er (fw1.trans fw2) rs2
    unfold lift at e2
    split at e2
    · rename_i z st3 hz
      cases e2
      exact ho (x, ys) st2 _ _ hz ms2 H2 (.ref p, us) rs2 ⟨fw2.rl hv, hus⟩ Q fun ms3 H3 u fw3 rs3 hu => hq ms3 H3 ((fw1.trans fw2).trans fw3) rs3 u hu
    · cases e2
  · cases e1
theorem rd_meth0 {g : Gs} {E : XK} {to : TE} {r : V → List V → Hp → VK → Prop} {o : F1 (D × List D) D} (ho : OpS g (RlM g) (Rl g) (fun p H Q => r p.1 p.2 H Q) o) (ha : Rd g E (Rl g) to fa) : Rd g E (Rl g) (tBM0 g.K "list" r to) (fMeth o fa fNil) := by
  intro env st rr st' e ms σ H rs re Q hq
  refine ha.bind e rs re (fun x st1 ms1 H1 fw1 rs1 re1 e1 v hv => ?_) fun c ms1 H1 er fw rs1 => out_er hq er fw rs1
  split at e1
  · rename_i ds hd
    obtain ⟨p, vs, rfl, hp, hvs⟩ := seqL_ok rs1 hv hd
    refine ⟨.inl ⟨rfl, vs, hp⟩, ?_⟩
    unfold fNil bnd ret3 lift at e1
    simp only at e1
    split at e1
    · rename_i z st3 hz
      cases e1
      exact ho (x, []) st1 _ _ hz ms1 H1 (.ref p, []) rs1 ⟨hv, .nil⟩ Q fun ms3 H3 u fw3 rs3 hu => hq ms3 H3 (fw1.trans fw3) rs3 u hu
    · cases e1
  · cases e1
theorem simE_meth {id : String} {name : Str} {r : V → List V → Hp → VK → Prop} {o : F1 (D × List D) D} (slot : Slot "list" name id) (hty : typeOf (.builtin id) = pure (.type "method_descriptor")) (hr : ∀ X, OkX c X → MtR X id r) (ho : OpS c.g (RlM c.g) (Rl c.g) (fun p H Q => r p.1 p.2 H Q) o)
    (ha : SimE c a fa) (hb : SimA c (e :: es) fr) (hbase : ∀ env : Env, attributeBase a name env (eval a env) = eval a env) (hl : (apos.endLine == cpos.line) = true) (hp : plainA (e :: es) = true) (hn : (e :: es).length + 0 + 0 < 30) : SimE c (.Call (.Attribute a name apos) (e :: es) [] cpos) (fMeth o fa fr) := by
  obtain ⟨ta, pa, ra⟩ := ha
  obtain ⟨tb, pb, rb⟩ := hb
  obtain ⟨h1, h2⟩ := plain_head hp
  exact ⟨tBM c.g.K "list" r ta tb, fun X ok => by rw [← ok.K]; exact pe_bm PySem.F.plainAttrs_list slot hty (hr X ok) (pa X ok) (pb X ok) (hbase _) (few_ok hp hn) hl (starEach_plain h1) (star_any h2), rd_meth ho ra rb⟩
theorem simE_meth0 {id : String} {name : Str} {r : V → List V → Hp → VK → Prop} {o : F1 (D × List D) D} (slot : Slot "list" name id) (hty : typeOf (.builtin id) = pure (.type "method_descriptor")) (hr : ∀ X, OkX c X → MtR X id r) (ho : OpS c.g (RlM c.g) (Rl c.g) (fun p H Q => r p.1 p.2 H Q) o)
    (ha : SimE c a fa) (hbase : ∀ env : Env, attributeBase a name env (eval a env) = eval a env) (hl : (apos.endLine == cpos.line) = true) : SimE c (.Call (.Attribute a name apos) [] [] cpos) (fMeth o fa fNil) := by
  obtain ⟨ta, pa, ra⟩ := ha
  exact ⟨tBM0 c.g.K "list" r ta, fun X ok => by rw [← ok.K]; exact pe_bm0 PySem.F.plainAttrs_list slot hty (hr X ok) (pa X ok) (hbase _) hl, rd_meth0 ho ra⟩
def oApp : F1 (D × List D) D := fun p st => match p.2 with
  | [y] => match ownL st p.1 with
    | some (n, ds) => if ds.length < sizeLine then some (.non, st.set n (.lst (ds ++ [y]))) else none
    | none => none
  | _ => none
theorem opS_app {g : Gs} : OpS g (RlM g) (Rl g) (fun p H Q => rAppend p.1 p.2 H Q) oApp := by
  rintro ⟨x, ys⟩ st z st' e ms H ⟨vx, vys⟩ rs ⟨hx, hys⟩ Q h
  unfold oApp at e
  split at e
  · rename_i y h0
    have h0 : ys = [y] := h0
    subst h0
    obtain ⟨vy, ey, hy⟩ := hys.one'
    have ey : vys = [vy] := ey
    subst ey
    split at e
    · rename_i n ds e1
      split at e
      · rename_i hl
        cases e
        obtain ⟨e0, p, vs, ex, hm, hp, ha⟩ := ownL_ok rs hx e1
        obtain ⟨fw, rs2⟩ := rs.put (o := .lst (vs ++ [vy])) (u := .lst (ds ++ [y])) e0 hm fun f e => ⟨_, e, (f.rlA ha).append (.one (f.rl hy))⟩
        exact ⟨p, vs, vy, ex, rfl, hp, by rw [← ha.length]; exact hl, h _ _ _ fw rs2 .non⟩
      · cases e
    · cases e
  · cases e
def oPopAt : F1 (D × List D) D := fun p st => match p.2 with
  | [.int i] => match ownL st p.1 with
    | some (n, ds) => if -(2 ^ 63) ≤ i ∧ i < 2 ^ 63 then match seqIndex? i ds.length with
        | some k => match ds[k]? with
          | some y => some (y, st.set n (.lst (ds.eraseIdx k)))
          | none => none
        | none => none
      else none
    | none => none
  | _ => none
theorem opS_popAt {g : Gs} : OpS g (RlM g) (Rl g) (fun p H Q => rPopAt p.1 p.2 H Q) oPopAt := by
  rintro ⟨x, ys⟩ st z st' e ms H ⟨vx, vys⟩ rs ⟨hx, hys⟩ Q h
  unfold oPopAt at e
  split at e
  · rename_i i h0
    have h0 : ys = [.int i] := h0
    subst h0
    obtain ⟨vy, ey, hy⟩ := hys.one'
    have ey : vys = [vy] := ey
    subst ey
    cases hy
    split at e
    · rename_i n ds e1
      split at e
      · rename_i hb
        split at e
        · rename_i k hk
          split at e
          · rename_i y hy
            cases e
            obtain ⟨e0, p, vs, ex, hm, hp, ha⟩ := ownL_ok rs hx e1
            obtain ⟨v, hv1, hv2⟩ := ha.get hy
            obtain ⟨fw, rs2⟩ := rs.put (o := .lst (vs.eraseIdx k)) (u := .lst (ds.eraseIdx k)) e0 hm fun f e => ⟨_, e, (f.rlA ha).eraseIdx k⟩
            exact ⟨p, vs, i, k, v, ex, rfl, hp, hb.1, hb.2, by rw [← ha.length]; exact hk, hv1, h _ _ _ fw rs2 (fw.rl hv2)⟩
          · cases e
        · cases e
      · cases e
    · cases e
  · cases e
theorem RlA.dropLast {g : Gs} {ms : List Addr} {H : Hp} {ds : List D} {vs : List V} (r : RlA g ms H ds vs) : RlA g ms H ds.dropLast vs.dropLast := by
  rw [List.dropLast_eq_take, List.dropLast_eq_take, r.length]
  exact r.take _
def oPop : F1 (D × List D) D := fun p st => match p.2 with
  | [] => match ownL st p.1 with
    | some (n, ds) => match ds[ds.length - 1]? with
      | some y => some (y, st.set n (.lst ds.dropLast))
      | none => none
    | none => none
  | _ => none
theorem opS_pop {g : Gs} : OpS g (RlM g) (Rl g) (fun p H Q => rPop p.1 p.2 H Q) oPop := by
  rintro ⟨x, ys⟩ st z st' e ms H ⟨vx, vys⟩ rs ⟨hx, hys⟩ Q h
  unfold oPop at e
  split at e
  · rename_i h0
    have h0 : ys = [] := h0
    subst h0
    cases hys
    split at e
    · rename_i n ds e1
      split at e
      · rename_i y hy
        cases e
        obtain ⟨e0, p, vs, ex, hm, hp, ha⟩ := ownL_ok rs hx e1
        obtain ⟨v, hv1, hv2⟩ := ha.get hy
        obtain ⟨fw, rs2⟩ := rs.put (o := .lst vs.dropLast) (u := .lst ds.dropLast) e0 hm fun f e => ⟨_, e, (f.rlA ha).dropLast⟩
        exact ⟨p, vs, v, ex, rfl, hp, by rw [← ha.length]; exact hv1, h _ _ _ fw rs2 (fw.rl hv2)⟩
      · cases e
    · cases e
  · cases e
def oExt : F1 (D × List D) D := fun p st => match p.2 with
  | [y] => match ownL st p.1, ownL st y with
    | some (n, ds), some (_, es) => if ds.length + es.length ≤ sizeLine then some (.non, st.set n (.lst (ds ++ es))) else none
    | _, _ => none
  | _ => none
theorem opS_ext {g : Gs} : OpS g (RlM g) (Rl g) (fun p H Q => rExtend p.1 p.2 H Q) oExt := by
  rintro ⟨x, ys⟩ st z st' e ms H ⟨vx, vys⟩ rs ⟨hx, hys⟩ Q h
  unfold oExt at e
  split at e
  · rename_i y h0
    have h0 : ys = [y] := h0
    subst h0
    obtain ⟨vy, ey, hy⟩ := hys.one'
    have ey : vys = [vy] := ey
    subst ey
    split at e
    · rename_i n ds n2 es e1 e2
      split at e
      · rename_i hl
        cases e
        obtain ⟨e0, p, vs, ex, hm, hp, ha⟩ := ownL_ok rs hx e1
        obtain ⟨_, q, us, ey, _, hq, hb⟩ := ownL_ok rs hy e2
        obtain ⟨fw, rs2⟩ := rs.put (o := .lst (vs ++ us)) (u := .lst (ds ++ es)) e0 hm fun f e => ⟨_, e, (f.rlA ha).append (f.rlA hb)⟩
        exact ⟨p, q, vs, us, ex, by rw [ey], hp, hq, by rw [← ha.length, ← hb.length]; exact hl, h _ _ _ fw rs2 .non⟩
      · cases e
    · cases e
  · cases e
theorem simE_append (ha : SimE c a fa) (hb : SimA c [e] fr) (hbase : ∀ env : Env, attributeBase a "append" env (eval a env) = eval a env := by intro _; rfl) (hl : (apos.endLine == cpos.line) = true := by rfl) (hp : plainA [e] = true := by rfl) : SimE c (.Call (.Attribute a "append" apos) [e] [] cpos) (fMeth oApp fa fr) :=
  simE_meth PySem.F.slot_list_append PySem.F.type_list_append (fun X o => mt_append) opS_app ha hb hbase hl hp (show 1 < 30 by decide)
theorem simE_extend (ha : SimE c a fa) (hb : SimA c [e] fr) (hbase : ∀ env : Env, attributeBase a "extend" env (eval a env) = eval a env := by intro _; rfl) (hl : (apos.endLine == cpos.line) = true := by rfl) (hp : plainA [e] = true := by rfl) : SimE c (.Call (.Attribute a "extend" apos) [e] [] cpos) (fMeth oExt fa fr) :=
  simE_meth PySem.F.slot_list_extend PySem.F.type_list_extend (fun X o => mt_extend) opS_ext ha hb hbase hl hp (show 1 < 30 by decide)
theorem simE_popAt (ha : SimE c a fa) (hb : SimA c [e] fr) (hbase : ∀ env : Env, attributeBase a "pop" env (eval a env) = eval a env := by intro _; rfl) (hl : (apos.endLine == cpos.line) = true := by rfl) (hp : plainA [e] = true := by rfl) : SimE c (.Call (.Attribute a "pop" apos) [e] [] cpos) (fMeth oPopAt fa fr) :=
  simE_meth PySem.F.slot_list_pop PySem.F.type_list_pop (fun X o => mt_popAt) opS_popAt ha hb hbase hl hp (show 1 < 30 by decide)
theorem simE_pop (ha : SimE c a fa) (hbase : ∀ env : Env, attributeBase a "pop" env (eval a env) = eval a env := by intro _; rfl) (hl : (apos.endLine == cpos.line) = true := by rfl) : SimE c (.Call (.Attribute a "pop" apos) [] [] cpos) (fMeth oPop fa fNil) :=
  simE_meth0 PySem.F.slot_list_pop PySem.F.type_list_pop (fun X o => mt_pop) opS_pop ha hbase hl

/-! ### x[i] = v, by values -/
def oSet (st : Sto) (o i v : D) : Option Sto := match o with
  | .loc n => match st[n]? with
    | some (.lst ds) => match i with
      | .int k => match ixN ds.length k with
        | some j => some (st.set n (.lst (ds.set j v)))
        | none => none
      | _ => none
    | some (.dK kvs) => match keyK i with
      | some key => if kvs.length < sizeLine then some (st.set n (.dK (putG kvs key v))) else none
      | none => none
    | some (.dT kvs) => match keyT i with
      | some key => if kvs.length < sizeLine then some (st.set n (.dT (putG kvs key v))) else none
      | none => none
    | none => none
  | _ => none
def rSetX : TSet := fun o i v H Q => rSetL o i v H Q ∨ rSetD o i v H Q
theorem set_x {X : Cx} (hu : X.A.units + 1 < cLine) : PSet X rSetX := by
  intro pins s σ H o i v ov iv u Q I ro ri rv h
  rcases h with h | h
  · exact set_list pins s σ H o i v ov iv u Q I ro ri rv h
  · exact set_dict hu pins s σ H o i v ov iv u Q I ro ri rv h
theorem oSet_ok {g : Gs} {ms : List Addr} {H : Hp} {st st' : Sto} {o i v : D} {vo vi vv : V} (rs : Rs g ms H st) (ho : Rl g ms H o vo) (hi : Rl g ms H i vi) (hv : Rl g ms H v vv) (e : oSet st o i v = some st') {Q : Hp → Prop} (h : ∀ H', Fw ms H ms H' → Rs g ms H' st' → Q H') : rSetX vo vi vv H Q := by
  unfold oSet at e
  split at e
  · split at e
    · rename_i n ds e0
      split at e
      · rename_i k
        split at e
        · rename_i j ej
          cases e
          cases ho with
          | loc hm =>
            cases hi
            obtain ⟨vs, h1, h2⟩ := rs.at_ _ _ _ e0 hm
            obtain ⟨fw, rs2⟩ := rs.put (o := .lst (vs.set j vv)) (u := .lst (ds.set j v)) e0 hm fun f e => ⟨_, e, (f.rlA h2).set (f.rl hv) j⟩
            exact .inl ⟨_, vs, k, j, rfl, rfl, h1, by rw [← h2.length]; exact ej, h _ fw rs2⟩
        · cases e
      · cases e
    · rename_i n kvs e0
      split at e
      · rename_i key ek
        split at e
        · rename_i hl
          cases e
          cases ho with
          | loc hm =>
            obtain ⟨vs, h1, h2⟩ := rs.at_ _ _ _ e0 hm
            obtain ⟨fw, rs2⟩ := rs.put (o := .dK (putK vs key vv)) (u := .dK (putG kvs key v)) e0 hm fun f e => ⟨_, e, (h2.mono f).put key (f.rl hv)⟩
            refine .inr ⟨_, _, rfl, ?_, h _ fw rs2⟩
            rw [keyK_ok hi ek]
            exact DPut.k h1 (by rw [← h2.length]; exact hl)
        · cases e
      · cases e
    · rename_i n kvs e0
      split at e
      · rename_i key ek
        split at e
        · rename_i hl
          cases e
          cases ho with
          | loc hm =>
            obtain ⟨vs, h1, h2⟩ := rs.at_ _ _ _ e0 hm
            obtain ⟨fw, rs2⟩ := rs.put (o := .dT (putK vs key vv)) (u := .dT (putG kvs key v)) e0 hm fun f e => ⟨_, e, (h2.mono f).put key (f.rl hv)⟩
            obtain ⟨b, rfl, hb⟩ := keyT_ok hi ek
            exact .inr ⟨_, _, rfl, DPut.t h1 hb (by rw [← h2.length]; exact hl), h _ fw rs2⟩
        · cases e
      · cases e
    · cases e
  · cases e
end
end S3

set_option maxHeartbeats 2000000
/-! S3G: statements. -/
namespace S3
open PySem PySem.Spec PyProof.Rows L2

inductive Fl where
  | nx
  | rt (d : D)
  | bk
  | ct
  | er (c : Nat)
abbrev FS := Env3 → Sto → Option (Fl × Env3 × Sto)
def OutS (g : Gs) (E : XK) (r : Fl) (Dn : Ends) (ms' : List Addr) (H' : Hp) (σ' : L2.St) : Prop := match r with
  | .nx => Dn.nx σ' H'
  | .bk => Dn.bk σ' H'
  | .ct => Dn.ct σ' H'
  | .rt d => ∀ v, Rl g ms' H' d v → Dn.rt v H'
  | .er c => E (.ref (g.cl c)) none H'
def RdS (g : Gs) (E : XK) (t : TS) (f : FS) : Prop :=
  ∀ env st r env' st', f env st = some (r, env', st') → ∀ ms σ H, Rs g ms H st → Re g ms H env σ → ∀ Dn : Ends,
    (∀ ms' H' σ', Fw ms H ms' H' → Rs g ms' H' st' → Re g ms' H' env' σ' → OutS g E r Dn ms' H' σ') → t Dn σ H
def SimS (c : Cxt) (st : Stmt) (f : FS) : Prop := ∃ t : TS, (∀ X, OkX c X → PS X st t) ∧ RdS c.g c.E t f
def SimSs (c : Cxt) (sts : List Stmt) (f : FS) : Prop := ∃ t : TS, (∀ X, OkX c X → PSs X sts t) ∧ RdS c.g c.E t f

/-! ### rows of statements -/
def fNop : FS := fun env st => some (.nx, env, st)
def fSeq (f1 f2 : FS) : FS := fun env st => match f1 env st with
  | some (.nx, env1, st1) => f2 env1 st1
  | r => r
/-- an expression within a statement -/
def eff {α : Type} (f : F3 α) (k : α → FS) : FS := fun env st => match f env st with
  | some (.ok a, st1) => k a env st1
  | some (.er c, st1) => some (.er c, env, st1)
  | none => none
theorem rd_seq {g : Gs} {E : XK} {t u : TS} {f1 f2 : FS} (h1 : RdS g E t f1) (h2 : RdS g E u f2) : RdS g E (tSeq t u) (fSeq f1 f2) := by
  intro env st r env' st' e ms σ H rs re Dn hq
  unfold fSeq at e
  split at e
  · rename_i env1 st1 e1
    refine h1 env st _ _ _ e1 ms σ H rs re _ fun ms1 H1 σ1 fw1 rs1 re1 => ?_
    exact h2 env1 st1 _ _ _ e ms1 σ1 H1 rs1 re1 Dn fun ms2 H2 σ2 fw2 => hq ms2 H2 σ2 (fw1.trans fw2)
  · rename_i hne
    refine h1 env st _ _ _ e ms σ H rs re _ fun ms1 H1 σ1 fw1 rs1 re1 => ?_
    have q := hq ms1 H1 σ1 fw1 rs1 re1
    cases r with
    | nx => exact absurd e (hne env' st')
    | rt d => exact q
    | bk => exact q
    | ct => exact q
    | er c => exact q
theorem Rd.eff {g : Gs} {E : XK} {α β : Type} {rel : List Addr → Hp → α → β → Prop} {t : L2.St → Hp → (β → Hp → Prop) → Prop} {f : F3 α} {k : α → FS} {env env' : Env3} {st st' : Sto} {r : Fl} {ms : List Addr} {σ : L2.St} {H : Hp} {Q : β → Hp → Prop}
    (h : Rd g E rel t f) (e : S3.eff f k env st = some (r, env', st')) (rs : Rs g ms H st) (re : Re g ms H env σ)
    (ho : ∀ a st1 ms1 H1, Fw ms H ms1 H1 → Rs g ms1 H1 st1 → Re g ms1 H1 env σ → k a env st1 = some (r, env', st') → ∀ b, rel ms1 H1 a b → Q b H1)
    (he : ∀ c ms1 H1, r = .er c → Fw ms H ms1 H1 → Rs g ms1 H1 st' → env' = env → Re g ms1 H1 env σ → E (.ref (g.cl c)) none H1) : t σ H Q := by
  unfold S3.eff at e
  split at e
  · rename_i a st1 hf
    exact h env st (.ok a) st1 hf ms σ H rs re Q fun ms1 H1 fw rs1 b hb => ho a st1 ms1 H1 fw rs1 (re.mono fw) e b hb
  · rename_i c st1 hf
    cases e
    exact h env st (.er c) _ hf ms σ H rs re Q fun ms1 H1 fw rs1 => he c ms1 H1 rfl fw rs1 rfl (re.mono fw)
  · cases e
theorem outS_er {g : Gs} {E : XK} {r : Fl} {Dn : Ends} {ms : List Addr} {H : Hp} {σ : L2.St} {env env' : Env3} {ms' : List Addr} {H' : Hp} {st' : Sto}
    (h : ∀ ms' H' σ', Fw ms H ms' H' → Rs g ms' H' st' → Re g ms' H' env' σ' → OutS g E r Dn ms' H' σ') {c : Nat} (e : r = .er c) (fw : Fw ms H ms' H') (rs : Rs g ms' H' st') (ee : env' = env) (re : Re g ms' H' env σ) : E (.ref (g.cl c)) none H' := by
  subst e
  subst ee
  exact h ms' H' σ fw rs re
section
variable {c : Cxt} {a b e : Expr} {es : List Expr} {s : Stmt} {ss : List Stmt} {f1 f2 : FS} {fa fb : F3 D} {pos p2 : Pos}
theorem simSs_nil : SimSs c [] fNop := ⟨tNext, fun X o => pss_nil, fun env st r env' st' e ms σ H rs re Dn hq => by
  cases e
  exact hq ms H σ (Fw.refl ms H) rs re⟩
theorem simSs_cons (h1 : SimS c s f1) (h2 : SimSs c ss f2) : SimSs c (s :: ss) (fSeq f1 f2) := by
  obtain ⟨t, p, r⟩ := h1
  obtain ⟨u, p2, r2⟩ := h2
  exact ⟨tSeq t u, fun X o => pss_cons (p X o) (p2 X o), rd_seq r r2⟩
theorem simSs_one (h1 : SimS c s f1) : SimSs c [s] f1 := by
  obtain ⟨t, p, r⟩ := h1
  exact ⟨t, fun X o => pss_one (p X o), r⟩
def fPass : FS := fNop
theorem simS_pass : SimS c (.Pass pos) fNop := ⟨tNext, fun X o => ps_pass, fun env st r env' st' e ms σ H rs re Dn hq => by
  cases e
  exact hq ms H σ (Fw.refl ms H) rs re⟩
theorem simS_continue : SimS c (.Continue pos) (fun env st => some (.ct, env, st)) := ⟨tCont, fun X o => ps_continue, fun env st r env' st' e ms σ H rs re Dn hq => by
  cases e
  exact hq ms H σ (Fw.refl ms H) rs re⟩
theorem simS_break : SimS c (.Break pos) (fun env st => some (.bk, env, st)) := ⟨tBreak, fun X o => ps_break, fun env st r env' st' e ms σ H rs re Dn hq => by
  cases e
  exact hq ms H σ (Fw.refl ms H) rs re⟩
def fRet (f : F3 D) : FS := eff f fun d env st => some (.rt d, env, st)
theorem simS_ret (ha : SimE c a fa) : SimS c (.Return (some a) pos) (fRet fa) := by
  obtain ⟨t, p, r⟩ := ha
  refine ⟨tRet t, fun X o => ps_ret (p X o), ?_⟩
  intro env st rr env' st' e ms σ H rs re Dn hq
  refine r.eff e rs re (fun d st1 ms1 H1 fw rs1 re1 e1 v hv => ?_) fun c ms1 H1 er fw rs1 ee re1 => outS_er hq er fw rs1 ee re1
  cases e1
  exact hq ms1 H1 σ fw rs1 re1 v hv
theorem simS_retN : SimS c (.Return none pos) (fun env st => some (.rt .non, env, st)) := ⟨tRetN, fun X o => ps_retN, fun env st r env' st' e ms σ H rs re Dn hq => by
  cases e
  exact hq ms H σ (Fw.refl ms H) rs re _ .non⟩
def fDrop (f : F3 D) : FS := eff f fun _ env st => some (.nx, env, st)
theorem simS_expr (ha : SimE c a fa) (hs : ∀ env : Env, swapsWith a none pos.line env = pure false := by intro _; rfl) : SimS c (.Expr a pos) (fDrop fa) := by
  obtain ⟨t, p, r⟩ := ha
  refine ⟨tDrop t, fun X o => ps_expr (p X o) (hs _), ?_⟩
  intro env st rr env' st' e ms σ H rs re Dn hq
  refine r.eff e rs re (fun d st1 ms1 H1 fw rs1 re1 e1 v hv => ?_) fun c ms1 H1 er fw rs1 ee re1 => outS_er hq er fw rs1 ee re1
  cases e1
  exact hq ms1 H1 σ fw rs1 re1
def fIfS (f : F3 Bool) (f1 f2 : FS) : FS := eff f fun b => if b = true then f1 else f2
theorem simS_if {ft : F3 Bool} {s1 s2 : List Stmt} (hc : SimT c e ft) (h1 : SimSs c s1 f1) (h2 : SimSs c s2 f2) : SimS c (.If e s1 s2 pos) (fIfS ft f1 f2) := by
  obtain ⟨t, p, r⟩ := hc
  obtain ⟨t1, p1, r1⟩ := h1
  obtain ⟨t2, p2, r2⟩ := h2
  refine ⟨tIfS t t1 t2, fun X o => ps_if (p X o) (p1 X o) (p2 X o), ?_⟩
  intro env st rr env' st' e ms σ H rs re Dn hq
  refine r.eff e rs re (fun d st1 ms1 H1 fw rs1 re1 e1 v hv => ?_) fun c ms1 H1 er fw rs1 ee re1 => outS_er hq er fw rs1 ee re1
  cases hv
  cases d with
  | true => exact iteT (r1 env st1 _ _ _ e1 ms1 σ H1 rs1 re1 Dn fun ms2 H2 σ2 fw2 => hq ms2 H2 σ2 (fw.trans fw2))
  | false => exact iteF (r2 env st1 _ _ _ e1 ms1 σ H1 rs1 re1 Dn fun ms2 H2 σ2 fw2 => hq ms2 H2 σ2 (fw.trans fw2))

/-! ### targets -/
abbrev G3 := D → Env3 → Sto → Option (Env3 × Sto)
abbrev Gn3 := List D → Env3 → Sto → Option (Env3 × Sto)
def RdG (g : Gs) {α β : Type} (rel : List Addr → Hp → α → β → Prop) (gt : β → L2.St → Hp → (L2.St → Hp → Prop) → Prop) (f : α → Env3 → Sto → Option (Env3 × Sto)) (W : List Nat) : Prop :=
  ∀ d env st env' st', f d env st = some (env', st') → ∀ ms σ H v, Rs g ms H st → Re g ms H env σ → rel ms H d v → ∀ Q : L2.St → Hp → Prop,
    (∀ ms' H' σ', Fw ms H ms' H' → Rs g ms' H' st' → Re g ms' H' env' σ' → (σ'.length = σ.length ∧ ∀ j, j ∉ W → σ'[j]? = σ[j]?) → Q σ' H') → gt v σ H Q
def SimG (c : Cxt) (tg : Expr) (f : G3) (W : List Nat) : Prop := ∃ t : TG, (∀ X, OkX c X → PG X tg t) ∧ RdG c.g (Rl c.g) t f W
def SimGs (c : Cxt) (tgs : List Expr) (f : Gn3) (W : List Nat) : Prop := ∃ t : TGs, (∀ X, OkX c X → PGs X tgs t) ∧ RdG c.g (RlA c.g) t f W
def gVar (i : Nat) : G3 := fun d env st => some (env.set i (some d), st)
def locB (c : Cxt) (x : Str) : Bool := match c.sc.names.lookup x with
  | some .local => true
  | some .cell => c.own x
  | _ => false
theorem locB_ok {x : Str} (h : locB c x = true) {X : Cx} (o : OkX c X) : Loc X.env.scope x ∧ (X.fn x = true ∨ X.env.scope.names.lookup x = some .local) := by
  unfold locB at h
  rw [o.sc]
  split at h
  · rename_i e
    exact ⟨.inl e, .inr e⟩
  · rename_i e
    exact ⟨.inr e, .inl (o.fn x h)⟩
  · cases h
theorem simG_name (i : Nat) [NL c.g i] {x : Str} (hi : c.N[i]? = some x) (hx : locB c x = true) : SimG c (.Name x pos) (gVar i) [i] := by
  refine ⟨gName i, fun X o => pg_name (by rw [o.N]; exact o.nd) (by rw [o.N]; exact hi) (locB_ok hx o).1 (locB_ok hx o).2, ?_⟩
  intro d env st env' st' e ms σ H v rs re hd Q hq
  cases e
  exact hq ms H _ (Fw.refl ms H) rs (re.set i hd) ⟨List.length_set, fun j hj => List.getElem?_set_ne (fun z => hj (by simp [z]))⟩
def gNil3 : Gn3 := fun ds env st => match ds with
  | [] => some (env, st)
  | _ => none
def gCons3 (f : G3) (r : Gn3) : Gn3 := fun ds env st => match ds with
  | d :: rest => match f d env st with
    | some (env1, st1) => r rest env1 st1
    | none => none
  | _ => none
theorem simGs_nil : SimGs c [] gNil3 [] := by
  refine ⟨gNil, fun X o => pgs_nil, ?_⟩
  intro d env st env' st' e ms σ H v rs re hd Q hq
  unfold gNil3 at e
  split at e
  · cases e
    cases hd
    exact ⟨rfl, hq ms H σ (Fw.refl ms H) rs re ⟨rfl, fun _ _ => rfl⟩⟩
  · cases e
def tgB (e : Expr) : Bool := match e with
  | .Starred _ _ => false
  | _ => true
theorem simGs_cons {f : G3} {r : Gn3} {W W2 : List Nat} (h1 : SimG c e f W) (h2 : SimGs c es r W2) (hs : ∀ env : Env, (assignEach (e :: es) env).map (·.2) = assign e env :: (assignEach es env).map (·.2) := by intro _; rfl) : SimGs c (e :: es) (gCons3 f r) (W ++ W2) := by
  obtain ⟨t, p, q⟩ := h1
  obtain ⟨u, p2, q2⟩ := h2
  refine ⟨gCons t u, fun X o => pgs_cons (p X o) (p2 X o) (hs _), ?_⟩
  intro d env st env' st' e ms σ H v rs re hd Q hq
  unfold gCons3 at e
  split at e
  · split at e
    · rename_i env1 st1 e1
      cases hd with
      | cons h3 h4 =>
        refine ⟨_, _, rfl, ?_⟩
        refine q _ env st _ _ e1 ms σ H _ rs re h3 _ fun ms1 H1 σ1 fw1 rs1 re1 k1 => ?_
        exact q2 _ env1 st1 _ _ e ms1 σ1 H1 _ rs1 re1 (fw1.rlA h4) _ fun ms2 H2 σ2 fw2 rs2 re2 k2 => hq ms2 H2 σ2 (fw1.trans fw2) rs2 re2 ⟨k2.1.trans k1.1, fun j hj => (k2.2 j fun z => hj (List.mem_append_right _ z)).trans (k1.2 j fun z => hj (List.mem_append_left _ z))⟩
    · cases e
  · cases e
def gTup3 (n : Nat) (f : Gn3) : G3 := fun d env st => match seqT d with
  | some ds => if ds.length = n then f ds env st else none
  | none => none
theorem simG_tup {k} {f : Gn3} {W : List Nat} (n : Nat) (h : SimGs c es f W) (hn : ∀ env : Env, (assignEach es env).length = n := by intro _; rfl) (hst : ∀ env : Env, (assignEach es env).findIdx? (·.1) = none := by intro _; rfl) : SimG c (.Tuple es k pos) (gTup3 n f) W := by
  obtain ⟨t, p, q⟩ := h
  refine ⟨gTup c.g.K n t, fun X o => by rw [← o.K]; exact pg_tup o.calm (p X o) (hn _) (hst _), ?_⟩
  intro d env st env' st' e ms σ H v rs re hd Q hq
  unfold gTup3 at e
  split at e
  · rename_i ds e1
    split at e
    · rename_i hl
      obtain ⟨a, xs, rfl, hp, ha⟩ := seqT_ok hd e1
      exact ⟨a, xs, rfl, hp, by rw [← ha.length]; exact hl, q _ env st _ _ e ms σ H _ rs re ha _ hq⟩
    · cases e
  · cases e
/-- o[i] = .. -/
def gSub3 (fo fi : F3 D) : G3 := fun d env st => match fo env st with
  | some (.ok o, st1) => match fi env st1 with
    | some (.ok i, st2) => match oSet st2 o i d with
      | some st3 => some (env, st3)
      | none => none
    | _ => none
  | _ => none
theorem simG_sub (ha : SimE c a fa) (hb : SimE c b fb) (hsub : ∀ (env : Env) (v : Value), assign (.Subscript a b pos) env v = (do
      let ov ← holding [v] (eval a env)
      let iv ← holding [v, ov] (eval b env)
      standAt pos
      holding [v, ov, iv] (setItem ov iv v)
      release [v, ov, iv] []) := by intro _ _; rfl) : SimG c (.Subscript a b pos) (gSub3 fa fb) [] := by
  obtain ⟨ta, pa, ra⟩ := ha
  obtain ⟨tb, pb, rb⟩ := hb
  refine ⟨gSub ta tb rSetX, fun X o => pg_sub (pa X o) (pb X o) (set_x o.hu) (fun v => hsub X.env v), ?_⟩
  intro d env st env' st' e ms σ H v rs re hd Q hq
  unfold gSub3 at e
  split at e
  · rename_i o st1 e1
    split at e
    · rename_i i st2 e2
      split at e
      · rename_i st3 e3
        cases e
        refine ra env st _ _ e1 ms σ H rs re _ fun ms1 H1 fw1 rs1 vo hvo => ?_
        refine rb env st1 _ _ e2 ms1 σ H1 rs1 (re.mono fw1) _ fun ms2 H2 fw2 rs2 vi hvi => ?_
        exact oSet_ok rs2 (fw2.rl hvo) hvi ((fw1.trans fw2).rl hd) e3 fun H3 fw3 rs3 => hq ms2 H3 σ ((fw1.trans fw2).trans fw3) rs3 (re.mono ((fw1.trans fw2).trans fw3)) ⟨rfl, fun _ _ => rfl⟩
      · cases e
    · cases e
  · cases e

/-! ### assignments -/
def fAsg (f : F3 D) (gt : G3) : FS := eff f fun d env st => match gt d env st with
  | some (env', st') => some (.nx, env', st')
  | none => none
theorem rd_asg {g : Gs} {E : XK} {t : TE} {gt : TG} {f : F3 D} {g3 : G3} {W : List Nat} (h : Rd g E (Rl g) t f) (hg : RdG g (Rl g) gt g3 W) : RdS g E (tAsg t gt) (fAsg f g3) := by
  intro env st rr env' st' e ms σ H rs re Dn hq
  refine h.eff e rs re (fun d st1 ms1 H1 fw rs1 re1 e1 v hv => ?_) fun c ms1 H1 er fw rs1 ee re1 => outS_er hq er fw rs1 ee re1
  split at e1
  · rename_i env2 st2 e2
    cases e1
    exact hg d env st1 _ _ e2 ms1 σ H1 v rs1 re1 hv _ fun ms2 H2 σ2 fw2 rs2 re2 _ => hq ms2 H2 σ2 (fw.trans fw2) rs2 re2
  · cases e1
/-- hs, hw: by rintro ⟨⟩ rfl; rfl -/
theorem simS_asg {tg : Expr} {g3 : G3} {W : List Nat} (ha : SimE c a fa) (hg : SimG c tg g3 W) (hs : ∀ env : Env, env.scope = c.sc → swapsWithSole [tg] a pos.line env = pure false) (hw : ∀ env : Env, env.scope = c.sc → swappedStores [tg] a env = pure none)
    (h1 : ∀ env : Env, (assignEach [tg] env).map (·.2) = [assign tg env] := by intro _; rfl) : SimS c (.Assign [tg] a pos) (fAsg fa g3) := by
  obtain ⟨t, p, r⟩ := ha
  obtain ⟨u, q, k⟩ := hg
  exact ⟨tAsg t u, fun X o => ps_asg (p X o) (q X o) (hs _ o.sc) (hw _ o.sc) (h1 _), rd_asg r k⟩
/-- a, b = x, y with plain local names -/
def fPar (is : List Nat) (f : F3 (List D)) : FS := eff f fun ds env st => if ds.length = is.length then some (.nx, (is.zip ds).foldl (fun e p => e.set p.1 (some p.2)) env, st) else none
theorem simS_par2 {i j : Nat} [NL c.g i] [NL c.g j] {x y : Str} {fr : F3 (List D)} {px py pt : Pos} {kt k2 pt2} (hi : c.N[i]? = some x) (hj : c.N[j]? = some y) (hij : i ≠ j) (hx : c.sc.names.lookup x = some .local) (hy : c.sc.names.lookup y = some .local) (ha : SimA c [a, b] fr)
    (hw : ∀ env : Env, env.scope = c.sc → swappedStores [.Tuple [.Name x px, .Name y py] kt pt] (.Tuple [a, b] k2 pt2) env = pure (some [x, y])) (hs : ∀ env : Env, env.scope = c.sc → swapsWithSole [.Tuple [.Name x px, .Name y py] kt pt] (.Tuple [a, b] k2 pt2) pos.line env = pure false) :
    SimS c (.Assign [.Tuple [.Name x px, .Name y py] kt pt] (.Tuple [a, b] k2 pt2) pos) (fPar [i, j] fr) := by
  obtain ⟨t, p, r⟩ := ha
  refine ⟨tPar i j t, fun X o => ps_par o.calm (by rw [o.N]; exact o.nd) (by rw [o.N]; exact hi) (by rw [o.N]; exact hj) hij (by rw [o.sc]; exact hx) (by rw [o.sc]; exact hy) (p X o) (hw _ o.sc) (hs _ o.sc), ?_⟩
  intro env st rr env' st' e ms σ H rs re Dn hq
  refine r.eff e rs re (fun ds st1 ms1 H1 fw rs1 re1 e1 vs hv => ?_) fun c ms1 H1 er fw rs1 ee re1 => outS_er hq er fw rs1 ee re1
  split at e1
  · rename_i hl
    cases e1
    match ds, hl with
    | [d1, d2], _ =>
      obtain ⟨v, w, rfl, h1, h2⟩ := hv.two'
      exact ⟨v, w, rfl, hq ms1 H1 _ fw rs1 ((re1.set i h1).set j h2)⟩
  · cases e1
theorem simS_par3 {i j l : Nat} [NL c.g i] [NL c.g j] [NL c.g l] {x y z : Str} {d : Expr} {fr : F3 (List D)} {px py pz pt : Pos} {kt k2 pt2} (hi : c.N[i]? = some x) (hj : c.N[j]? = some y) (hl : c.N[l]? = some z) (hij : i ≠ j) (hil : i ≠ l) (hjl : j ≠ l) (hx : c.sc.names.lookup x = some .local) (hy : c.sc.names.lookup y = some .local) (hz : c.sc.names.lookup z = some .local) (ha : SimA c [a, b, d] fr)
    (hw : ∀ env : Env, env.scope = c.sc → swappedStores [.Tuple [.Name x px, .Name y py, .Name z pz] kt pt] (.Tuple [a, b, d] k2 pt2) env = pure (some [x, y, z])) (hs : ∀ env : Env, env.scope = c.sc → swapsWithSole [.Tuple [.Name x px, .Name y py, .Name z pz] kt pt] (.Tuple [a, b, d] k2 pt2) pos.line env = pure false) :
    SimS c (.Assign [.Tuple [.Name x px, .Name y py, .Name z pz] kt pt] (.Tuple [a, b, d] k2 pt2) pos) (fPar [i, j, l] fr) := by
  obtain ⟨t, p, r⟩ := ha
  refine ⟨tPar3 i j l t, fun X o => ps_par3 o.calm (by rw [o.N]; exact o.nd) (by rw [o.N]; exact hi) (by rw [o.N]; exact hj) (by rw [o.N]; exact hl) hij hil hjl (by rw [o.sc]; exact hx) (by rw [o.sc]; exact hy) (by rw [o.sc]; exact hz) (p X o) (hw _ o.sc) (hs _ o.sc), ?_⟩
  intro env st rr env' st' e ms σ H rs re Dn hq
  refine r.eff e rs re (fun ds st1 ms1 H1 fw rs1 re1 e1 vs hv => ?_) fun c ms1 H1 er fw rs1 ee re1 => outS_er hq er fw rs1 ee re1
  split at e1
  · rename_i hl
    cases e1
    match ds, hl with
    | [d1, d2, d3], _ =>
      cases hv with
      | cons h1 t =>
        obtain ⟨v, w, rfl, h2, h3⟩ := t.two'
        exact ⟨_, v, w, rfl, hq ms1 H1 _ fw rs1 (((re1.set i h1).set j h2).set l h3)⟩
  · cases e1
/-- x op= e, of ints -/
def fAug (o : Int → Int → Int) (i : Nat) (f : F3 D) : FS := fun env st => match env[i]? with
  | some (some (.int k)) => eff f (fun d env st => match d with
    | .int j => some (.nx, env.set i (some (.int (o k j))), st)
    | _ => none) env st
  | _ => none
theorem simS_aug {op : Operator} {o : Int → Int → Int} (hop : ∀ X, OkX c X → PIp X op (ipI o)) (i : Nat) [NL c.g i] {x : Str} {pos' : Pos} (hi : c.N[i]? = some x) (hx : locB c x = true) (ha : SimE c a fa) : SimS c (.AugAssign (.Name x pos') op a pos) (fAug o i fa) := by
  obtain ⟨t, p, r⟩ := ha
  refine ⟨tAug i t (ipI o), fun X ok => ps_aug (by rw [ok.N]; exact ok.nd) (by rw [ok.N]; exact hi) (locB_ok hx ok).1 (p X ok) (hop X ok) (locB_ok hx ok).2, ?_⟩
  intro env st rr env' st' e ms σ H rs re Dn hq
  unfold fAug at e
  split at e
  · rename_i k ek
    obtain ⟨v, h1, h2⟩ := re.at_ i _ ek
    cases h2
    refine ⟨_, h1, ?_⟩
    refine r.eff e rs re (fun d st1 ms1 H1 fw rs1 re1 e1 v hv => ?_) fun c ms1 H1 er fw rs1 ee re1 => outS_er hq er fw rs1 ee re1
    split at e1
    · cases e1
      cases hv
      exact ⟨_, _, rfl, rfl, hq ms1 H1 _ fw rs1 (re1.set i (.int _))⟩
    · cases e1
  · cases e
theorem simS_augAdd (i : Nat) [NL c.g i] {x : Str} {pos' : Pos} (hi : c.N[i]? = some x) (hx : locB c x = true) (ha : SimE c a fa) : SimS c (.AugAssign (.Name x pos') .Add a pos) (fAug (fun i j => i + j) i fa) := simS_aug (fun X o => ip_add) i hi hx ha
/-- xs[i] op= e, a list of ints -/
def rGetL (K : PySem.W.Frag) : V → V → Hp → VK → Prop := fun x y H Q => ∃ p xs i v, x = .ref p ∧ y = .int i ∧ 0 ≤ i ∧ i < 2 ^ 63 ∧ SqL K H p xs ∧ xs[i.toNat]? = some v ∧ Q v H
theorem get_l {X : Cx} : PGet X (rGetL X.K) := by
  intro pins s σ H o i ov iv Q I ro ri h
  obtain ⟨p, xs, k, v, rfl, rfl, h0, h1, hp, hv, q⟩ := h
  cases ro
  obtain ⟨t, rfl⟩ := ri
  obtain ⟨its, r, pl, hz⟩ := I.list hp
  obtain ⟨w, ew, rw'⟩ := r.get hv
  exact wpAny_getItem_list pl.isList h0 h1 (by simpa using ew) ⟨v, H, I, rw', q⟩
def fAugS (o : Int → Int → Int) (fo fi f : F3 D) : FS := eff fo fun x => eff fi fun y => fun env st => match y with
  | .int i => if 0 ≤ i ∧ i < 2 ^ 63 then match seqL st x with
      | some ds => match ds[i.toNat]? with
        | some (.int k) => eff f (fun d env st => match d with
          | .int j => match oSet st x y (.int (o k j)) with
            | some st' => some (.nx, env, st')
            | none => none
          | _ => none) env st
        | _ => none
      | none => none
    else none
  | _ => none
theorem simS_augS {op : Operator} {o : Int → Int → Int} (hop : ∀ X, OkX c X → PIp X op (ipI o)) {fc : F3 D} {tpos : Pos} (ha : SimE c a fa) (hb : SimE c b fb) (he : SimE c e fc) (hau : ∀ ov iv new, augStore b ov iv new = (do holding [new, ov, iv] (setItem ov iv new); release [new, ov, iv] []; pure .next) := by intros; rfl) : SimS c (.AugAssign (.Subscript a b tpos) op e pos) (fAugS o fa fb fc) := by
  obtain ⟨ta, pa, ra⟩ := ha
  obtain ⟨tb, pb, rb⟩ := hb
  obtain ⟨te, pe, re'⟩ := he
  refine ⟨tAugS ta tb te (rGetL c.g.K) (ipI o) rSetX, fun X ok => ps_augS (pa X ok) (pb X ok) (by rw [← ok.K]; exact get_l) (pe X ok) (hop X ok) (set_x ok.hu) hau, ?_⟩
  intro env st rr env' st' e ms σ H rs re Dn hq
  refine ra.eff e rs re (fun x st1 ms1 H1 fw1 rs1 re1 e1 vx hx => ?_) fun c ms1 H1 er fw rs1 ee re1 => outS_er hq er fw rs1 ee re1
  refine rb.eff e1 rs1 re1 (fun y st2 ms2 H2 fw2 rs2 re2 e2 vy hy => ?_) fun c ms2 H2 er fw rs2 ee re2 => outS_er hq er (fw1.trans fw) rs2 ee re2
  split at e2
  · rename_i i
    split at e2
    · rename_i hi
      split at e2
      · rename_i ds ed
        split at e2
        · rename_i k ek
          cases hy
          obtain ⟨p, vs, rfl, hp, hvs⟩ := seqL_ok rs2 (fw2.rl hx) ed
          obtain ⟨v, hv1, hv2⟩ := hvs.get ek
          cases hv2
          refine ⟨p, vs, i, _, rfl, rfl, hi.1, hi.2, hp, hv1, ?_⟩
          refine re'.eff e2 rs2 re2 (fun d st3 ms3 H3 fw3 rs3 re3 e3 v hv => ?_) fun c ms3 H3 er fw rs3 ee re3 => outS_er hq er ((fw1.trans fw2).trans fw) rs3 ee re3
          split at e3
          · split at e3
            · rename_i st4 e4
              cases e3
              cases hv
              exact ⟨_, _, rfl, rfl, oSet_ok rs3 ((fw2.trans fw3).rl hx) (.int _) (.int _) e4 fun H4 fw4 rs4 => hq ms3 H4 σ (((fw1.trans fw2).trans fw3).trans fw4) rs4 (re3.mono fw4)⟩
            · cases e3
          · cases e3
        · cases e2
      · cases e2
    · cases e2
  · cases e2
end
end S3

set_option maxHeartbeats 2000000
/-! S3H: loops, comprehensions. -/
namespace S3
open PySem PySem.Spec PyProof.Rows L2

/-! ### while -/
def fWhile (fc : F3 Bool) (fb : FS) : Nat → FS
  | 0 => fun _ _ => none
  | n + 1 => fun env st => match fc env st with
    | some (.ok true, st1) => match fb env st1 with
      | some (.nx, env2, st2) => fWhile fc fb n env2 st2
      | some (.ct, env2, st2) => fWhile fc fb n env2 st2
      | some (.bk, env2, st2) => some (.nx, env2, st2)
      | some (.rt d, env2, st2) => some (.rt d, env2, st2)
      | some (.er c, env2, st2) => some (.er c, env2, st2)
      | none => none
    | some (.ok false, st1) => some (.nx, env, st1)
    | some (.er c, st1) => some (.er c, env, st1)
    | none => none
section
variable {c : Cxt} {a b e : Expr} {es : List Expr} {s : Stmt} {ss : List Stmt} {f1 f2 fb : FS} {fa : F3 D} {pos p2 p : Pos}
theorem simS_while {ft : F3 Bool} (n : Nat) (hc : SimT c e ft) (hb : SimSs c ss fb) : SimS c (.While e ss [] pos) (fWhile ft fb n) := by
  obtain ⟨tc, pc, rc⟩ := hc
  obtain ⟨tb, pb, rb⟩ := hb
  refine ⟨tWhile tc tb, fun X o => ps_while o.po (pc X o) (pb X o), ?_⟩
  intro env st r env' st' e ms σ H rs re Dn hq
  refine ⟨fun m σ1 H1 => ∃ env1 st1 ms1, Fw ms H ms1 H1 ∧ Rs c.g ms1 H1 st1 ∧ Re c.g ms1 H1 env1 σ1 ∧ fWhile ft fb m env1 st1 = some (r, env', st'), ⟨n, env, st, ms, Fw.refl ms H, rs, re, e⟩, ?_⟩
  rintro m σ1 H1 ⟨env1, st1, ms1, fw1, rs1, re1, e1⟩
  cases m with
  | zero => cases e1
  | succ m =>
    unfold fWhile at e1
    split at e1
    · rename_i st2 e2
      refine rc env1 st1 _ _ e2 ms1 σ1 H1 rs1 re1 _ fun ms2 H2 fw2 rs2 b hb => ?_
      cases hb
      refine iteT ⟨fun σ3 H3 => ∃ env1 st1 ms1, Fw ms H ms1 H3 ∧ Rs c.g ms1 H3 st1 ∧ Re c.g ms1 H3 env1 σ3 ∧ fWhile ft fb m env1 st1 = some (r, env', st'), fun σ' H' h => ⟨m, Nat.lt_succ_self m, h⟩, ?_⟩
      have re2 := re1.mono fw2
      have fw12 := fw1.trans fw2
      split at e1
      · rename_i env3 st3 e3
        refine rb env1 st2 _ _ _ e3 ms2 σ1 H2 rs2 re2 _ fun ms3 H3 σ3 fw3 rs3 re3 => ?_
        exact ⟨env3, st3, ms3, fw12.trans fw3, rs3, re3, e1⟩
      · rename_i env3 st3 e3
        refine rb env1 st2 _ _ _ e3 ms2 σ1 H2 rs2 re2 _ fun ms3 H3 σ3 fw3 rs3 re3 => ?_
        exact ⟨env3, st3, ms3, fw12.trans fw3, rs3, re3, e1⟩
      · rename_i env3 st3 e3
        cases e1
        exact rb env1 st2 _ _ _ e3 ms2 σ1 H2 rs2 re2 _ fun ms3 H3 σ3 fw3 rs3 re3 => hq ms3 H3 σ3 (fw12.trans fw3) rs3 re3
      · rename_i d env3 st3 e3
        cases e1
        exact rb env1 st2 _ _ _ e3 ms2 σ1 H2 rs2 re2 _ fun ms3 H3 σ3 fw3 rs3 re3 => hq ms3 H3 σ3 (fw12.trans fw3) rs3 re3
      · rename_i cc env3 st3 e3
        cases e1
        exact rb env1 st2 _ _ _ e3 ms2 σ1 H2 rs2 re2 _ fun ms3 H3 σ3 fw3 rs3 re3 => hq ms3 H3 σ3 (fw12.trans fw3) rs3 re3
      · cases e1
    · rename_i st2 e2
      cases e1
      refine rc _ st1 _ _ e2 ms1 σ1 H1 rs1 re1 _ fun ms2 H2 fw2 rs2 b hb => ?_
      cases hb
      exact iteF (hq ms2 H2 σ1 (fw1.trans fw2) rs2 (re1.mono fw2))
    · rename_i cc st2 e2
      cases e1
      exact rc _ st1 _ _ e2 ms1 σ1 H1 rs1 re1 _ fun ms2 H2 fw2 rs2 => hq ms2 H2 σ1 (fw1.trans fw2) rs2 (re1.mono fw2)
    · cases e1

/-! ### what is walked -/
abbrev Src := Sto → Nat → Option (Option D)
/-- J follows src -/
def IOk (g : Gs) (ms0 : List Addr) (H0 : Hp) (src : Src) (J : It) : Prop := ∀ ms H st i, Fw ms0 H0 ms H → Rs g ms H st →
  (src st i = some none → J.stop i H) ∧ ∀ d, src st i = some (some d) → J.go i H ∧ ∀ x H', J.yld i H x H' → Fw ms H ms H' ∧ Rs g ms H' st ∧ Rl g ms H' d x
def SimI (c : Cxt) (tg iter : Expr) (f : F3 Src) : Prop := ∃ wi : TI, (∀ X, OkX c X → PI X tg iter wi) ∧ Rd c.g c.E (IOk c.g) wi f
def srcL (d : D) : Src := fun st i => match seqL st d with
  | some ds => some ds[i]?
  | none => none
def srcT (ds : List D) : Src := fun _ i => some ds[i]?
def fOverL (f : F3 D) : F3 Src := bnd f fun d env st => match seqL st d with
  | some _ => some (.ok (srcL d), st)
  | none => none
def fOverT (f : F3 D) : F3 Src := bnd f fun d env st => match seqT d with
  | some ds => some (.ok (srcT ds), st)
  | none => none
variable {tg : Expr}
theorem simI_list (ha : SimE c a fa) : SimI c tg a (fOverL fa) := by
  obtain ⟨t, p, r⟩ := ha
  refine ⟨iList c.g.K t, fun X o => by rw [← o.K]; exact pi_list (p X o), ?_⟩
  intro env st rr st' e ms σ H rs re R hq
  refine r.bind e rs re (fun d st1 ms1 H1 fw rs1 re1 e1 v hv => ?_) fun c ms1 H1 er fw rs1 => out_er hq er fw rs1
  split at e1
  · rename_i ds ed
    cases e1
    obtain ⟨q, vs, rfl, hp, hvs⟩ := seqL_ok rs1 hv ed
    refine ⟨q, rfl, ⟨vs, hp⟩, hq ms1 H1 fw rs1 _ fun ms2 H2 st2 i fw2 rs2 => ?_⟩
    have hv2 := fw2.rl hv
    unfold srcL
    split
    · rename_i es ee
      obtain ⟨q', us, eq, hp2, hus⟩ := seqL_ok rs2 hv2 ee
      cases eq
      refine ⟨fun z => ⟨us, hp2, ?_⟩, fun d' z => ?_⟩
      · have z' : es[i]? = none := Option.some.inj z
        rw [← hus.length]
        exact List.getElem?_eq_none_iff.mp z'
      · have z' : es[i]? = some d' := Option.some.inj z
        obtain ⟨v, h1, h2⟩ := hus.get z'
        refine ⟨⟨us, v, hp2, h1⟩, fun x H' y => ?_⟩
        obtain ⟨rfl, y2⟩ := y
        have y3 := y2 us hp2
        rw [h1] at y3
        cases y3
        exact ⟨Fw.refl _ _, rs2, h2⟩
    · exact ⟨fun z => (by cases z), fun _ z => (by cases z)⟩
  · cases e1
theorem simI_tup (ha : SimE c a fa) : SimI c tg a (fOverT fa) := by
  obtain ⟨t, p, r⟩ := ha
  refine ⟨iTup c.g.K t, fun X o => by rw [← o.K]; exact pi_tup (p X o), ?_⟩
  intro env st rr st' e ms σ H rs re R hq
  refine r.bind e rs re (fun d st1 ms1 H1 fw rs1 re1 e1 v hv => ?_) fun c ms1 H1 er fw rs1 => out_er hq er fw rs1
  split at e1
  · rename_i ds ed
    cases e1
    obtain ⟨q, vs, rfl, hp, hvs⟩ := seqT_ok hv ed
    refine ⟨q, rfl, ⟨vs, hp⟩, hq ms1 H1 fw rs1 _ fun ms2 H2 st2 i fw2 rs2 => ?_⟩
    have hp2 := fw2.le.sqT hp
    refine ⟨fun z => ⟨vs, hp2, ?_⟩, fun d' z => ?_⟩
    · have z' : ds[i]? = none := Option.some.inj z
      rw [← hvs.length]
      exact List.getElem?_eq_none_iff.mp z'
    · have z' : ds[i]? = some d' := Option.some.inj z
      obtain ⟨v, h1, h2⟩ := hvs.get z'
      refine ⟨⟨vs, v, hp2, h1⟩, fun x H' y => ?_⟩
      obtain ⟨rfl, y2⟩ := y
      have y3 := y2 vs hp2
      rw [h1] at y3
      cases y3
      exact ⟨Fw.refl _ _, rs2, fw2.rl h2⟩
  · cases e1
def srcR (lo : Int) (n : Nat) : Src := fun _ i => some (if i < n then some (.int (lo + (i : Nat))) else none)
def fOverR (f : F3 (List D)) : F3 Src := bnd f fun ds env st => match ds with
  | [.int j] => if -(2 ^ 62) ≤ j ∧ j < 2 ^ 62 then some (.ok (srcR 0 j.toNat), st) else none
  | _ => none
theorem iok_range {g : Gs} {ms : List Addr} {H : Hp} {lo : Int} {n : Nat} : IOk g ms H (srcR lo n) (Itr lo n) := by
  intro ms2 H2 st2 i fw2 rs2
  unfold srcR
  by_cases hi : i < n
  · rw [if_pos hi]
    refine ⟨fun z => (by cases z), fun d z => ⟨hi, fun x H' y => ?_⟩⟩
    obtain ⟨rfl, rfl⟩ := y
    cases z
    exact ⟨Fw.refl _ _, rs2, .int _⟩
  · rw [if_neg hi]
    exact ⟨fun _ => Nat.le_of_not_lt hi, fun d z => (by cases z)⟩
theorem simI_range {fr : F3 (List D)} (hg : glB c.sc "range" = true) (hm : c.g.mg "range" = none) (ha : SimA c [a] fr) (hp : plainE a = true := by rfl) : SimI c tg (.Call (.Name "range" p) [a] [] pos) (fOverR fr) := by
  obtain ⟨t, q, r⟩ := ha
  refine ⟨iRng1 t, fun X o => pi_range1 (o.gl hg) (by rw [o.mg]; exact hm) (q X o) (starEach_plain hp), ?_⟩
  intro env st rr st' e ms σ H rs re R hq
  refine r.bind e rs re (fun ds st1 ms1 H1 fw rs1 re1 e1 vs hv => ?_) fun c ms1 H1 er fw rs1 => out_er hq er fw rs1
  split at e1
  · split at e1
    · rename_i hj
      cases e1
      obtain ⟨v, rfl, hv⟩ := hv.one'
      cases ‹Rl c.g ms1 H1 (D.int _) v›
      exact ⟨_, rfl, hj.1, hj.2, hq ms1 H1 fw rs1 _ iok_range⟩
    · cases e1
  · cases e1
def srcS (x : Str) : Src := fun _ i => some (match x.cps[i]? with
  | some k => some (.str ⟨#[k]⟩)
  | none => none)
def fOverS (f : F3 D) : F3 Src := bnd f fun d env st => match d with
  | .str x => some (.ok (srcS x), st)
  | _ => none
theorem simI_str (ha : SimE c a fa) : SimI c tg a (fOverS fa) := by
  obtain ⟨t, p, r⟩ := ha
  refine ⟨iStr t, fun X o => pi_str (p X o), ?_⟩
  intro env st rr st' e ms σ H rs re R hq
  refine r.bind e rs re (fun d st1 ms1 H1 fw rs1 re1 e1 v hv => ?_) fun c ms1 H1 er fw rs1 => out_er hq er fw rs1
  split at e1
  · rename_i x
    cases e1
    cases hv
    refine ⟨x, rfl, hq ms1 H1 fw rs1 _ fun ms2 H2 st2 i fw2 rs2 => ?_⟩
    unfold srcS
    cases hk : x.cps[i]? with
    | none => exact ⟨fun _ => Array.getElem?_eq_none_iff.mp hk, fun d z => (by cases z)⟩
    | some k =>
      refine ⟨fun z => (by cases z), fun d z => ⟨(Array.getElem?_eq_some_iff.mp hk).1, fun x' H' y => ?_⟩⟩
      obtain ⟨rfl, k', h1, rfl⟩ := y
      rw [hk] at h1
      cases h1
      cases z
      exact ⟨Fw.refl _ _, rs2, .str _⟩
  · cases e1
/-- enumerate(a list) -/
def srcE (d : D) : Src := fun st i => match seqL st d with
  | some ds => some (match ds[i]? with
    | some x => some (.tup [.int (i : Nat), x])
    | none => none)
  | none => none
def fOverE (f : F3 (List D)) : F3 Src := bnd f fun ds env st => match ds with
  | [d] => match seqL st d with
    | some _ => some (.ok (srcE d), st)
    | none => none
  | _ => none
theorem simI_enumL {elts : List Expr} {kk : Nat} {tpos : Pos} {fr : F3 (List D)} (hg : glB c.sc "enumerate" = true) (hm : c.g.mg "enumerate" = none) (ha : SimA c [a] fr) (hp : plainE a = true := by rfl) : SimI c (.Tuple elts kk tpos) (.Call (.Name "enumerate" p) [a] [] pos) (fOverE fr) := by
  obtain ⟨t, q, r⟩ := ha
  refine ⟨iEnum c.g.K t, fun X o => by rw [← o.K]; exact pi_enum (o.gl hg) (by rw [o.mg]; exact hm) (q X o) (starEach_plain hp), ?_⟩
  intro env st rr st' e ms σ H rs re R hq
  refine r.bind e rs re (fun ds st1 ms1 H1 fw rs1 re1 e1 vs hv => ?_) fun c ms1 H1 er fw rs1 => out_er hq er fw rs1
  split at e1
  · split at e1
    · rename_i d ds ed
      cases e1
      obtain ⟨v, e0, hv1⟩ := hv.one'
      subst e0
      clear hv
      have hv := hv1
      clear hv1
      obtain ⟨q, vs, rfl, hp, hvs⟩ := seqL_ok rs1 hv ed
      refine ⟨q, vs, rfl, hp, hq ms1 H1 fw rs1 _ fun ms2 H2 st2 i fw2 rs2 => ?_⟩
      have hv2 := fw2.rl hv
      unfold srcE
      split
      · rename_i es ee
        obtain ⟨q', us, eq, hp2, hus⟩ := seqL_ok rs2 hv2 ee
        cases eq
        cases hk : es[i]? with
        | none => exact ⟨fun z => ⟨us, hp2, by rw [← hus.length]; exact List.getElem?_eq_none_iff.mp hk⟩, fun _ z => (by cases z)⟩
        | some x =>
          obtain ⟨w, h1, h2⟩ := hus.get hk
          refine ⟨fun z => (by cases z), fun d' z => ⟨⟨us, w, hp2, h1⟩, fun x' H' y => ?_⟩⟩
          obtain ⟨T, x2, rfl, hT, rfl, y2⟩ := y
          have y3 := y2 us hp2
          rw [h1] at y3
          cases y3
          cases z
          obtain ⟨fw3, rs3⟩ := rs2.fresh (o := .tup [.int (i : Nat), w]) hT
          exact ⟨fw3, rs3, .tup upd_same (.cons (.int _) (.one (fw3.rl h2)))⟩
      · exact ⟨fun z => (by cases z), fun _ z => (by cases z)⟩
    · cases e1
  · cases e1
/-- zip of two tuples -/
def srcZ (xs ys : List D) : Src := fun _ i => some (match xs[i]?, ys[i]? with
  | some x, some y => some (.tup [x, y])
  | _, _ => none)
def fOverZ (f : F3 (List D)) : F3 Src := bnd f fun ds env st => match ds with
  | [.tup xs, .tup ys] => some (.ok (srcZ xs ys), st)
  | _ => none
theorem simI_zipT {elts : List Expr} {kk : Nat} {tpos : Pos} {fr : F3 (List D)} (hg : glB c.sc "zip" = true) (hm : c.g.mg "zip" = none) (ha : SimA c [a, b] fr) (hp : plainE a = true := by rfl) (hp2 : plainE b = true := by rfl) : SimI c (.Tuple elts kk tpos) (.Call (.Name "zip" p) [a, b] [] pos) (fOverZ fr) := by
  obtain ⟨t, q, r⟩ := ha
  refine ⟨RZ.iZipA c.g.K t, fun X o => by rw [← o.K]; exact RZ.pi_zipA (o.gl hg) (by rw [o.mg]; exact hm) (q X o) (starEach_plain hp) (star_any (by unfold plainA; rw [hp2]; rfl)), ?_⟩
  intro env st rr st' e ms σ H rs re R hq
  refine r.bind e rs re (fun ds st1 ms1 H1 fw rs1 re1 e1 vs hv => ?_) fun c ms1 H1 er fw rs1 => out_er hq er fw rs1
  split at e1
  · rename_i xs ys
    cases e1
    obtain ⟨v, w, e0, h1, h2⟩ := hv.two'
    subst e0
    cases h1 with
    | tup hp ha =>
      cases h2 with
      | tup hq' hb =>
        rename_i pa va pb vb
        refine ⟨pa, pb, va, vb, rfl, .inr ⟨.inl (.inl hp), .inl (.inl hq'), hq ms1 H1 fw rs1 _ fun ms2 H2 st2 i fw2 rs2 => ?_⟩⟩
        have ta : SqT c.g.K H2 pa va := fw2.le.sqT (.inl (.inl hp))
        have tb : SqT c.g.K H2 pb vb := fw2.le.sqT (.inl (.inl hq'))
        unfold srcZ
        cases hx : xs[i]? with
        | none => exact ⟨fun _ => ⟨va, vb, ta, tb, .inl (by rw [← ha.length]; exact List.getElem?_eq_none_iff.mp hx)⟩, fun _ z => (by cases z)⟩
        | some x =>
          cases hy : ys[i]? with
          | none => exact ⟨fun _ => ⟨va, vb, ta, tb, .inr (by rw [← hb.length]; exact List.getElem?_eq_none_iff.mp hy)⟩, fun _ z => (by cases z)⟩
          | some y =>
            obtain ⟨w1, k1, k2⟩ := ha.get hx
            obtain ⟨w2, k3, k4⟩ := hb.get hy
            refine ⟨fun z => (by cases z), fun d' z => ⟨⟨va, vb, w1, w2, ta, tb, k1, k3⟩, fun x' H' yy => ?_⟩⟩
            obtain ⟨T, x2, y2, rfl, hT, rfl, z1, z2⟩ := yy
            have z1 := z1 va ta
            have z2 := z2 vb tb
            rw [k1] at z1
            rw [k3] at z2
            cases z1
            cases z2
            cases z
            obtain ⟨fw3, rs3⟩ := rs2.fresh (o := .tup [w1, w2]) hT
            exact ⟨fw3, rs3, .tup upd_same (.cons ((fw2.trans fw3).rl k2) (.one ((fw2.trans fw3).rl k4)))⟩
  · cases e1

/-! ### for -/
def loopF (src : Src) (gt : G3) (fb : FS) : Nat → Nat → FS
  | 0, _ => fun _ _ => none
  | n + 1, i => fun env st => match src st i with
    | some none => some (.nx, env, st)
    | some (some d) => match gt d env st with
      | some (env1, st1) => match fb env1 st1 with
        | some (.nx, env2, st2) => loopF src gt fb n (i + 1) env2 st2
        | some (.ct, env2, st2) => loopF src gt fb n (i + 1) env2 st2
        | some (.bk, env2, st2) => some (.nx, env2, st2)
        | some (.rt d, env2, st2) => some (.rt d, env2, st2)
        | some (.er c, env2, st2) => some (.er c, env2, st2)
        | none => none
      | none => none
    | none => none
def fFor (n : Nat) (fi : F3 Src) (gt : G3) (fb : FS) : FS := eff fi fun src => loopF src gt fb n 0
theorem simS_for {W : List Nat} {gt : G3} {fi : F3 Src} (n : Nat) (hi : SimI c tg e fi) (hg : SimG c tg gt W) (hb : SimSs c ss fb) (hs : ∀ (env : Env) (x : Value), foldedSetIterable e env x = pure x := by intro _ _; rfl) : SimS c (.For tg e ss [] pos) (fFor n fi gt fb) := by
  obtain ⟨wi, pi, ri⟩ := hi
  obtain ⟨tgt, pg, rg⟩ := hg
  obtain ⟨tb, pb, rb⟩ := hb
  refine ⟨tFor wi tgt tb, fun X o => ps_for o.po o.calm (pi X o) (pg X o) (pb X o) (hs _), ?_⟩
  intro env st r env' st' e ms σ H rs re Dn hq
  refine ri.eff e rs re (fun src st0 ms0 H0 fw0 rs0 re0 e0 J hJ => ?_) fun c ms1 H1 er fw rs1 ee re1 => outS_er hq er fw rs1 ee re1
  refine ⟨fun i m σ1 H1 => ∃ env1 st1 ms1, Fw ms0 H0 ms1 H1 ∧ Rs c.g ms1 H1 st1 ∧ Re c.g ms1 H1 env1 σ1 ∧ loopF src gt fb m i env1 st1 = some (r, env', st'), ⟨n, env, st0, ms0, Fw.refl _ _, rs0, re0, e0⟩, ?_⟩
  rintro i m σ1 H1 ⟨env1, st1, ms1, fw1, rs1, re1, e1⟩
  cases m with
  | zero => cases e1
  | succ m =>
    unfold loopF at e1
    obtain ⟨J1, J2⟩ := hJ ms1 H1 st1 i fw1 rs1
    split at e1
    · rename_i hs
      cases e1
      exact .inl ⟨J1 hs, hq ms1 H1 σ1 (fw0.trans fw1) rs1 re1⟩
    · rename_i d hs
      obtain ⟨g1, g2⟩ := J2 d hs
      refine .inr ⟨g1, fun σ3 H3 => ∃ env1 st1 ms1, Fw ms0 H0 ms1 H3 ∧ Rs c.g ms1 H3 st1 ∧ Re c.g ms1 H3 env1 σ3 ∧ loopF src gt fb m (i + 1) env1 st1 = some (r, env', st'), fun σ' H' h => ⟨m, Nat.lt_succ_self m, h⟩, fun x H2 hy => ?_⟩
      obtain ⟨fw2, rs2, hd⟩ := g2 x H2 hy
      have fw02 := fw1.trans fw2
      split at e1
      · rename_i env3 st3 e3
        refine rg d env1 st1 _ _ e3 ms1 σ1 H2 x rs2 (re1.mono fw2) hd _ fun ms3 H3 σ3 fw3 rs3 re3 _ => ?_
        have fw03 := fw02.trans fw3
        split at e1
        · rename_i env4 st4 e4
          refine rb env3 st3 _ _ _ e4 ms3 σ3 H3 rs3 re3 _ fun ms4 H4 σ4 fw4 rs4 re4 => ?_
          exact ⟨env4, st4, ms4, fw03.trans fw4, rs4, re4, e1⟩
        · rename_i env4 st4 e4
          refine rb env3 st3 _ _ _ e4 ms3 σ3 H3 rs3 re3 _ fun ms4 H4 σ4 fw4 rs4 re4 => ?_
          exact ⟨env4, st4, ms4, fw03.trans fw4, rs4, re4, e1⟩
        · rename_i env4 st4 e4
          cases e1
          exact rb env3 st3 _ _ _ e4 ms3 σ3 H3 rs3 re3 _ fun ms4 H4 σ4 fw4 rs4 re4 => hq ms4 H4 σ4 (fw0.trans (fw03.trans fw4)) rs4 re4
        · rename_i d4 env4 st4 e4
          cases e1
          exact rb env3 st3 _ _ _ e4 ms3 σ3 H3 rs3 re3 _ fun ms4 H4 σ4 fw4 rs4 re4 => hq ms4 H4 σ4 (fw0.trans (fw03.trans fw4)) rs4 re4
        · rename_i c4 env4 st4 e4
          cases e1
          exact rb env3 st3 _ _ _ e4 ms3 σ3 H3 rs3 re3 _ fun ms4 H4 σ4 fw4 rs4 re4 => hq ms4 H4 σ4 (fw0.trans (fw03.trans fw4)) rs4 re4
        · cases e1
      · cases e1
    · cases e1

/-! ### comprehensions -/
/-- the context of a block -/
abbrev Cxt.blk (c : Cxt) (scope : Scope) : Cxt := { c with sc := relS scope c.sc, E := fun _ _ _ => False, own := fun x => scope.names.lookup x == some .cell, lam := none, hx := fun _ => True }
theorem OkX.blk {X : Cx} (o : OkX c X) (s : Shared) (H : Hp) (scope : Scope) (C : Addr) (cl : List (Str × Addr)) (fp : List Addr) : OkX (c.blk scope) (X.blk s H scope (compEnvC scope cl C X.env) fp) where
  prog := o.prog
  w := o.w
  K := o.K
  mg := o.mg
  base := o.base
  N := o.N
  sc := by
    show relabel scope X.env = relS scope c.sc
    rw [← o.sc]
    rfl
  calm := o.calm
  room := o.room
  guards := o.guards
  lamb := fun _ _ z => (by cases z)
  nd := o.nd
  fn := fun x h => h
  po := PassesOwn.never
  tk := takes0
  hx := trivial
def wipeE (env : Env3) : List Nat → Env3
  | [] => env
  | v :: vs => (wipeE env vs).set v none
theorem Re.wipe' {g : Gs} {ms : List Addr} {H : Hp} {env : Env3} {σ : L2.St} (r : Re g ms H env σ) : ∀ vs : List Nat, (∀ i ∈ vs, ∀ l, g.lam = some l → l.i ≠ i) → Re g ms H (wipeE env vs) (L2.wipe σ vs)
  | [], _ => r
  | v :: vs, nl => by
    have ih := Re.wipe' r vs fun i hi => nl i (List.mem_cons_of_mem _ hi)
    refine ⟨by simp [wipeE, L2.wipe, ih.len], fun i d e => ?_, fun l e => ?_⟩
    rotate_left
    · obtain ⟨h1, h2, h3⟩ := ih.lam l e
      refine ⟨?_, h2, h3⟩
      unfold L2.wipe
      rw [List.getElem?_set_ne fun z => nl v (by simp) l e z.symm]
      exact h1
    unfold wipeE at e
    unfold L2.wipe
    by_cases hi : v = i
    · subst hi
      by_cases hl : v < (wipeE env vs).length
      · rw [List.getElem?_set_self hl] at e
        cases e
      · rw [List.getElem?_eq_none (by simpa using hl)] at e
        cases e
    · rw [List.getElem?_set_ne hi] at e ⊢
      exact ih.at_ i d e
theorem Re.wipe {g : Gs} {ms : List Addr} {H : Hp} {env : Env3} {σ : L2.St} (r : Re g ms H env σ) (vs : List Nat) [nl : NLs g vs] : Re g ms H (wipeE env vs) (L2.wipe σ vs) := r.wipe' vs nl.ne
theorem wipe_get {σ : L2.St} {j : Nat} : ∀ {vs : List Nat}, (L2.wipe σ vs)[j]? = if j ∈ vs ∧ j < σ.length then some none else σ[j]?
  | [] => by simp [L2.wipe]
  | v :: vs => by
    unfold L2.wipe
    by_cases hv : v = j
    · subst hv
      by_cases hl : v < σ.length
      · rw [List.getElem?_set_self (by rw [wipe_length]; exact hl), if_pos ⟨by simp, hl⟩]
      · rw [List.getElem?_eq_none (by simp [wipe_length]; omega), if_neg (by simp [hl]), List.getElem?_eq_none (by omega)]
    · rw [List.getElem?_set_ne hv, wipe_get]
      have : (j ∈ v :: vs) ↔ j ∈ vs := by
        rw [List.mem_cons]
        exact ⟨fun z => z.elim (fun e => absurd e.symm hv) id, .inr⟩
      simp only [this]
theorem wipe_same {σ σ2 : L2.St} {W vs : List Nat} (hl : σ2.length = σ.length) (h : ∀ j, j ∉ W → σ2[j]? = (L2.wipe σ vs)[j]?) (hW : ∀ j ∈ W, j ∈ vs) : L2.wipe σ2 vs = L2.wipe σ vs := by
  apply List.ext_getElem?
  intro j
  rw [wipe_get]
  by_cases hj : j ∈ vs
  · by_cases hlt : j < σ.length
    · rw [if_pos ⟨hj, by rw [hl]; exact hlt⟩, wipe_get, if_pos ⟨hj, hlt⟩]
    · rw [if_neg (by rw [hl]; simp [hlt]), List.getElem?_eq_none (by omega), List.getElem?_eq_none (by rw [wipe_length]; omega)]
  · rw [if_neg (by simp [hj]), h j fun z => hj (hW j z)]
def SimTs (c : Cxt) (ifs : List Expr) (f : F3 Bool) : Prop := ∃ t : TT, (∀ X, OkX c X → PTs X ifs t) ∧ Rd c.g c.E RelB t f
theorem simTs_nil : SimTs c [] (ret3 true) := ⟨tYes, fun X o => pts_nil, Rd.ret (fun _ _ => rfl) fun _ _ _ h => h.symm⟩
theorem simTs_one {ft : F3 Bool} (h : SimT c e ft) : SimTs c [e] ft := by
  obtain ⟨t, p, r⟩ := h
  exact ⟨t, fun X o => pts_one (p X o), r⟩
def loopC (src : Src) (gt : G3) (ft : F3 Bool) (fe : F3 D) (env0 : Env3) (D : Nat) : Nat → Nat → Sto → Option Sto
  | 0, _, _ => none
  | n + 1, i, st => match src st i with
    | some none => some st
    | some (some d) => match gt d env0 st with
      | some (env1, st1) => match ft env1 st1 with
        | some (.ok true, st2) => match fe env1 st2 with
          | some (.ok y, st3) => match st3[D]? with
            | some (.lst acc) => if acc.length < sizeLine then loopC src gt ft fe env0 D n (i + 1) (st3.set D (.lst (acc ++ [y]))) else none
            | _ => none
          | _ => none
        | some (.ok false, st2) => loopC src gt ft fe env0 D n (i + 1) st2
        | _ => none
      | none => none
    | none => none
def fLc (n : Nat) (vs : List Nat) (fi : F3 Src) (gt : G3) (ft : F3 Bool) (fe : F3 D) : F3 D := bnd fi fun src env st => match loopC src gt ft fe (wipeE env vs) st.length n 0 (st ++ [.lst []]) with
  | some st' => some (.ok (.loc st.length), st')
  | none => none
theorem rd_lc {g : Gs} {E : XK} {wi : TI} {tgt : TG} {tt : TT} {te : TE} {vs : List Nat} [NLs g vs] {W : List Nat} {gt : G3} {ft : F3 Bool} {fe : F3 D} {fi : F3 Src} (n : Nat) (ri : Rd g E (IOk g) wi fi) (rg : RdG g (Rl g) tgt gt W) (rt : Rd g (fun _ _ _ => False) RelB tt ft) (re' : Rd g (fun _ _ _ => False) (Rl g) te fe) (hW : ∀ j ∈ W, j ∈ vs) :
    Rd g E (Rl g) (tLc wi tgt tt te vs) (fLc n vs fi gt ft fe) := by
  intro env st rr st' e ms σ H rs re Q hq
  refine ri.bind e rs re (fun src st0 ms0 H0 fw0 rs0 re0 e0 J hJ => ?_) fun c ms1 H1 er fw rs1 => out_er hq er fw rs1
  split at e0
  · rename_i st9 e9
    cases e0
    intro D hD
    obtain ⟨fwA, rsA, qA⟩ := rs0.alloc (o := .lst []) (u := .lst []) hD fun f e => ⟨[], e, .nil⟩
    have hDm : (ms0 ++ [D])[st0.length]? = some D := by
      rw [← rs0.len, List.getElem?_append_right (Nat.le_refl _), Nat.sub_self]
      rfl
    have hDn : ∀ {ms2 H2}, Fw (ms0 ++ [D]) (upd H0 D (.lst [])) ms2 H2 → ms2[st0.length]? = some D := fun {ms2 H2} f => by
      obtain ⟨t, rfl⟩ := f.ms
      rw [List.getElem?_append_left (List.getElem?_eq_some_iff.mp hDm).1]
      exact hDm
    refine ⟨fun i m H1 => ∃ st1 ms1, Fw (ms0 ++ [D]) (upd H0 D (.lst [])) ms1 H1 ∧ Rs g ms1 H1 st1 ∧ loopC src gt ft fe (wipeE env vs) st0.length m i st1 = some st', ⟨n, _, _, Fw.refl _ _, rsA, e9⟩, ?_⟩
    rintro i m H1 ⟨st1, ms1, fw1, rs1, e1⟩
    have re1 : Re g ms1 H1 (wipeE env vs) (L2.wipe σ vs) := ((re0.mono fwA).mono fw1).wipe vs
    cases m with
    | zero => cases e1
    | succ m =>
      unfold loopC at e1
      obtain ⟨J1, J2⟩ := hJ ms1 H1 st1 i (fwA.trans fw1) rs1
      split at e1
      · rename_i hs
        cases e1
        exact .inl ⟨J1 hs, hq ms1 H1 ((fw0.trans fwA).trans fw1) rs1 _ (fw1.rl qA)⟩
      · rename_i d hs
        obtain ⟨g1, g2⟩ := J2 d hs
        refine .inr ⟨g1, fun H3 => ∃ st1 ms1, Fw (ms0 ++ [D]) (upd H0 D (.lst [])) ms1 H3 ∧ Rs g ms1 H3 st1 ∧ loopC src gt ft fe (wipeE env vs) st0.length m (i + 1) st1 = some st', fun H' h => ⟨m, Nat.lt_succ_self m, h⟩, fun x H2 hy => ?_⟩
        obtain ⟨fw2, rs2, hd⟩ := g2 x H2 hy
        split at e1
        · rename_i env3 st3 e3
          refine rg d _ st1 _ _ e3 ms1 _ H2 x rs2 (re1.mono fw2) hd _ fun ms3 H3 σ3 fw3 rs3 re3 hk => ?_
          refine ⟨wipe_same (hk.1.trans (wipe_length σ vs)) hk.2 hW, ?_⟩
          have fw13 := fw1.trans (fw2.trans fw3)
          split at e1
          · rename_i st4 e4
            refine rt env3 st3 _ _ e4 ms3 σ3 H3 rs3 re3 _ fun ms4 H4 fw4 rs4 b hb => ?_
            cases hb
            split at e1
            · rename_i y st5 e5
              refine iteT (re' env3 st4 _ _ e5 ms4 σ3 H4 rs4 (re3.mono fw4) _ fun ms5 H5 fw5 rs5 v hv => ?_)
              split at e1
              · rename_i acc ea
                split at e1
                · rename_i hlt
                  have fw15 := (fw13.trans fw4).trans fw5
                  obtain ⟨vs5, h1, h2⟩ := rs5.at_ _ _ _ ea (hDn fw15)
                  obtain ⟨fw6, rs6⟩ := rs5.put (o := .lst (vs5 ++ [v])) (u := .lst (acc ++ [y])) ea (hDn fw15) fun f e => ⟨_, e, (f.rlA h2).append (.one (f.rl hv))⟩
                  exact ⟨vs5, h1, by rw [← h2.length]; exact hlt, _, ms5, fw15.trans fw6, rs6, e1⟩
                · cases e1
              · cases e1
            · cases e1
          · rename_i st4 e4
            refine rt env3 st3 _ _ e4 ms3 σ3 H3 rs3 re3 _ fun ms4 H4 fw4 rs4 b hb => ?_
            cases hb
            exact iteF ⟨_, ms4, fw13.trans fw4, rs4, e1⟩
          · cases e1
        · cases e1
      · cases e1
  · cases e0
variable {elt : Expr} {ifs : List Expr} {scope : Scope} {own : List (Str × Nat)} {W : List Nat} {gt : G3} {ft : F3 Bool} {fe : F3 D} {fi : F3 Src}
/-- [elt for tg in e ..] as a value -/
theorem simE_lc (own : List (Str × Nat)) [NLs c.g (own.map (·.2))] (n : Nat) (hi : SimI c tg e fi) (ok : blkC c.N c.sc scope own = true) (hg : SimG (c.blk scope) tg gt W) (ht : SimTs (c.blk scope) ifs ft) (he : SimE (c.blk scope) elt fe) (hW : ∀ j ∈ W, j ∈ own.map (·.2))
    (hs : ∀ (env : Env) (x : Value), foldedSetIterable e env x = pure x := by intro _ _; rfl) : SimE c (.ListComp elt [⟨tg, e, ifs, 0⟩] scope pos) (fLc n (own.map (·.2)) fi gt ft fe) := by
  obtain ⟨wi, pi, ri⟩ := hi
  obtain ⟨tgt, pg, rg⟩ := hg
  obtain ⟨tt, pt, rt⟩ := ht
  obtain ⟨te, pe, re'⟩ := he
  exact ⟨tLc wi tgt tt te (own.map (·.2)), fun X o => pe_lc o.calm (by rw [o.N]; exact o.nd) (pi X o) (blkOk_by (by rw [o.N, o.sc]; exact ok)) (fun s H C cl fp => pg _ (o.blk s H scope C cl fp)) (fun s H C cl fp => pt _ (o.blk s H scope C cl fp)) (fun s H C cl fp => pe _ (o.blk s H scope C cl fp)) (hs _), rd_lc n ri rg rt re' hW⟩
/-- y = [elt for ..] on one line, y a local name -/
theorem simS_setLc (own : List (Str × Nat)) [NLs c.g (own.map (·.2))] (n : Nat) (i : Nat) [NL c.g i] {y : Str} {py spos : Pos} (hy : c.N[i]? = some y) (hyl : c.sc.names.lookup y = some .local) (hk : c.sc.kind = .function) (hl : (py.line == pos.line) = true) (ha : (scope.names.any fun (n, k) => n == y && (k == .local || k == .cell)) = false)
    (hi : SimI c tg e fi) (ok : blkC c.N c.sc scope own = true) (hg : SimG (c.blk scope) tg gt W) (ht : SimTs (c.blk scope) ifs ft) (he : SimE (c.blk scope) elt fe) (hW : ∀ j ∈ W, j ∈ own.map (·.2))
    (hs : ∀ (env : Env) (x : Value), foldedSetIterable e env x = pure x := by intro _ _; rfl) : SimS c (.Assign [.Name y py] (.ListComp elt [⟨tg, e, ifs, 0⟩] scope pos) spos) (fAsg (fLc n (own.map (·.2)) fi gt ft fe) (gVar i)) := by
  obtain ⟨wi, pi, ri⟩ := hi
  obtain ⟨tgt, pg, rg⟩ := hg
  obtain ⟨tt, pt, rt⟩ := ht
  obtain ⟨te, pe, re'⟩ := he
  refine ⟨tAsg (tLc wi tgt tt te (own.map (·.2))) (gName i), fun X o => ps_setLc o.calm (by rw [o.N]; exact o.nd) (by rw [o.N]; exact hy) (by rw [o.sc]; exact hyl) (sw_true (by rw [o.sc]; exact hk) (by rw [o.sc]; exact hyl) hl ha) (pi X o) (blkOk_by (by rw [o.N, o.sc]; exact ok)) (fun s H C cl fp => pg _ (o.blk s H scope C cl fp)) (fun s H C cl fp => pt _ (o.blk s H scope C cl fp)) (fun s H C cl fp => pe _ (o.blk s H scope C cl fp)) (hs _), ?_⟩
  refine rd_asg (W := [i]) (rd_lc n ri rg rt re' hW) ?_
  intro d env st env' st' e ms σ H v rs re hd Q hq
  cases e
  exact hq ms H _ (Fw.refl ms H) rs (re.set i hd) ⟨List.length_set, fun j hj => List.getElem?_set_ne (fun z => hj (by simp [z]))⟩
/-- {k: v for tg in e ..}, keys ints or texts -/
def loopD (src : Src) (gt : G3) (ft : F3 Bool) (fk fv : F3 D) (env0 : Env3) (D : Nat) : Nat → Nat → Sto → Option Sto
  | 0, _, _ => none
  | n + 1, i, st => match src st i with
    | some none => some st
    | some (some d) => match gt d env0 st with
      | some (env1, st1) => match ft env1 st1 with
        | some (.ok true, st2) => match fk env1 st2 with
          | some (.ok y, st3) => match fv env1 st3 with
            | some (.ok z, st4) => match keyK y with
              | some key => match st4[D]? with
                | some (.dK kvs) => if kvs.length < sizeLine then loopD src gt ft fk fv env0 D n (i + 1) (st4.set D (.dK (putG kvs key z))) else none
                | _ => none
              | none => none
            | _ => none
          | _ => none
        | some (.ok false, st2) => loopD src gt ft fk fv env0 D n (i + 1) st2
        | _ => none
      | none => none
    | none => none
def fDc (n : Nat) (vs : List Nat) (fi : F3 Src) (gt : G3) (ft : F3 Bool) (fk fv : F3 D) : F3 D := bnd fi fun src env st => match loopD src gt ft fk fv (wipeE env vs) st.length n 0 (st ++ [.dK []]) with
  | some st' => some (.ok (.loc st.length), st')
  | none => none
theorem rd_dc {g : Gs} {E : XK} {wi : TI} {tgt : TG} {tt : TT} {tk tv : TE} {vs : List Nat} [NLs g vs] {W : List Nat} {gt : G3} {ft : F3 Bool} {fk fv : F3 D} {fi : F3 Src} (n : Nat) (ri : Rd g E (IOk g) wi fi) (rg : RdG g (Rl g) tgt gt W) (rt : Rd g (fun _ _ _ => False) RelB tt ft) (rk : Rd g (fun _ _ _ => False) (Rl g) tk fk) (rv : Rd g (fun _ _ _ => False) (Rl g) tv fv) (hW : ∀ j ∈ W, j ∈ vs) :
    Rd g E (Rl g) (tDc wi tgt tt tk tv vs) (fDc n vs fi gt ft fk fv) := by
  intro env st rr st' e ms σ H rs re Q hq
  refine ri.bind e rs re (fun src st0 ms0 H0 fw0 rs0 re0 e0 J hJ => ?_) fun c ms1 H1 er fw rs1 => out_er hq er fw rs1
  split at e0
  · rename_i st9 e9
    cases e0
    intro D hD
    obtain ⟨fwA, rsA, qA⟩ := rs0.alloc (o := .dK []) (u := .dK []) hD fun f e => ⟨[], e, .nil⟩
    have hDm : (ms0 ++ [D])[st0.length]? = some D := by
      rw [← rs0.len, List.getElem?_append_right (Nat.le_refl _), Nat.sub_self]
      rfl
    have hDn : ∀ {ms2 H2}, Fw (ms0 ++ [D]) (upd H0 D (.dK [])) ms2 H2 → ms2[st0.length]? = some D := fun {ms2 H2} f => by
      obtain ⟨t, rfl⟩ := f.ms
      rw [List.getElem?_append_left (List.getElem?_eq_some_iff.mp hDm).1]
      exact hDm
    refine ⟨fun i m H1 => ∃ st1 ms1, Fw (ms0 ++ [D]) (upd H0 D (.dK [])) ms1 H1 ∧ Rs g ms1 H1 st1 ∧ loopD src gt ft fk fv (wipeE env vs) st0.length m i st1 = some st', ⟨n, _, _, Fw.refl _ _, rsA, e9⟩, ?_⟩
    rintro i m H1 ⟨st1, ms1, fw1, rs1, e1⟩
    have re1 : Re g ms1 H1 (wipeE env vs) (L2.wipe σ vs) := ((re0.mono fwA).mono fw1).wipe vs
    cases m with
    | zero => cases e1
    | succ m =>
      unfold loopD at e1
      obtain ⟨J1, J2⟩ := hJ ms1 H1 st1 i (fwA.trans fw1) rs1
      split at e1
      · rename_i hs
        cases e1
        exact .inl ⟨J1 hs, hq ms1 H1 ((fw0.trans fwA).trans fw1) rs1 _ (fw1.rl qA)⟩
      · rename_i d hs
        obtain ⟨g1, g2⟩ := J2 d hs
        refine .inr ⟨g1, fun H3 => ∃ st1 ms1, Fw (ms0 ++ [D]) (upd H0 D (.dK [])) ms1 H3 ∧ Rs g ms1 H3 st1 ∧ loopD src gt ft fk fv (wipeE env vs) st0.length m (i + 1) st1 = some st', fun H' h => ⟨m, Nat.lt_succ_self m, h⟩, fun x H2 hy => ?_⟩
        obtain ⟨fw2, rs2, hd⟩ := g2 x H2 hy
        split at e1
        · rename_i env3 st3 e3
          refine rg d _ st1 _ _ e3 ms1 _ H2 x rs2 (re1.mono fw2) hd _ fun ms3 H3 σ3 fw3 rs3 re3 hk => ?_
          refine ⟨wipe_same (hk.1.trans (wipe_length σ vs)) hk.2 hW, ?_⟩
          have fw13 := fw1.trans (fw2.trans fw3)
          split at e1
          · rename_i st4 e4
            refine rt env3 st3 _ _ e4 ms3 σ3 H3 rs3 re3 _ fun ms4 H4 fw4 rs4 b hb => ?_
            cases hb
            split at e1
            · rename_i y st5 e5
              refine iteT (rk env3 st4 _ _ e5 ms4 σ3 H4 rs4 (re3.mono fw4) _ fun ms5 H5 fw5 rs5 v hv => ?_)
              split at e1
              · rename_i z st6 e6
                refine rv env3 st5 _ _ e6 ms5 σ3 H5 rs5 ((re3.mono fw4).mono fw5) _ fun ms6 H6 fw6 rs6 w hw => ?_
                split at e1
                · rename_i key ek
                  split at e1
                  · rename_i kvs ea
                    split at e1
                    · rename_i hlt
                      have fw16 := ((fw13.trans fw4).trans fw5).trans fw6
                      obtain ⟨vs5, h1, h2⟩ := rs6.at_ _ _ _ ea (hDn fw16)
                      obtain ⟨fw7, rs7⟩ := rs6.put (o := .dK (putK vs5 key w)) (u := .dK (putG kvs key z)) ea (hDn fw16) fun f e => ⟨_, e, (h2.mono f).put key (f.rl hw)⟩
                      exact ⟨vs5, key, keyK_ok (fw6.rl hv) ek, h1, by rw [← h2.length]; exact hlt, _, ms6, fw16.trans fw7, rs7, e1⟩
                    · cases e1
                  · cases e1
                · cases e1
              · cases e1
            · cases e1
          · rename_i st4 e4
            refine rt env3 st3 _ _ e4 ms3 σ3 H3 rs3 re3 _ fun ms4 H4 fw4 rs4 b hb => ?_
            cases hb
            exact iteF ⟨_, ms4, fw13.trans fw4, rs4, e1⟩
          · cases e1
        · cases e1
      · cases e1
  · cases e0
theorem simE_dc {kx vx : Expr} {fk fv : F3 D} (own : List (Str × Nat)) [NLs c.g (own.map (·.2))] (n : Nat) (hi : SimI c tg e fi) (ok : blkC c.N c.sc scope own = true) (hg : SimG (c.blk scope) tg gt W) (ht : SimTs (c.blk scope) ifs ft) (hk : SimE (c.blk scope) kx fk) (hv : SimE (c.blk scope) vx fv) (hW : ∀ j ∈ W, j ∈ own.map (·.2))
    (hs : ∀ (env : Env) (x : Value), foldedSetIterable e env x = pure x := by intro _ _; rfl) : SimE c (.DictComp kx vx [⟨tg, e, ifs, 0⟩] scope pos) (fDc n (own.map (·.2)) fi gt ft fk fv) := by
  obtain ⟨wi, pi, ri⟩ := hi
  obtain ⟨tgt, pg, rg⟩ := hg
  obtain ⟨tt, pt, rt⟩ := ht
  obtain ⟨tk, pk, rk⟩ := hk
  obtain ⟨tv, pv, rv⟩ := hv
  exact ⟨tDc wi tgt tt tk tv (own.map (·.2)), fun X o => pe_dc o.calm (by rw [o.N]; exact o.nd) (pi X o) (blkOk_by (by rw [o.N, o.sc]; exact ok)) (fun s H C cl fp => pg _ (o.blk s H scope C cl fp)) (fun s H C cl fp => pt _ (o.blk s H scope C cl fp)) (fun s H C cl fp => pk _ (o.blk s H scope C cl fp)) (fun s H C cl fp => pv _ (o.blk s H scope C cl fp)) (hs _), rd_dc n ri rg rt rk rv hW⟩
end
end S3

set_option maxHeartbeats 2000000
/-! S3I: defs, calls of defs, raise. -/
namespace S3
open PySem PySem.Spec PyProof.Rows L2

theorem lev {a b : Nat} (h : Nat.ble a b = true := by rfl) : a ≤ b := Nat.le_of_ble_eq_true h

/-! ### defs -/
abbrev FD := List D → Sto → Option (R3 D × Sto)
def spOf (g : Gs) (n : Nat) (fd : FD) : Sp := fun vs H Q E => ∃ ds ms st r st', ds.length = n ∧ Rs g ms H st ∧ RlA g ms H ds vs ∧ fd ds st = some (r, st') ∧ ∀ ms' H', Fw ms H ms' H' → Rs g ms' H' st' → Out g E (Rl g) r Q ms' H'
structure DefOk (g : Gs) (k : Nat) (x : Str) (st : Stmt) (ps : List Str) (fd : FD) : Prop where
  ex : ∃ (f : Addr) (fdat : FuncData), L2.Fun g.K x x st f fdat ∧ g.mg x = some (.ref f) ∧ FnOk g.P g.w g.K g.mg g.base (L2.CX g.P g.w) k f fdat ps (spOf g ps.length fd)
theorem DefOk.mono {g : Gs} {j k : Nat} {x : Str} {st : Stmt} {ps : List Str} {fd : FD} (d : DefOk g j x st ps fd) (h : j ≤ k) : DefOk g k x st ps fd := by
  obtain ⟨f, fdat, a, b, c⟩ := d.ex
  exact ⟨f, fdat, a, b, c.mono h⟩
def fdOf (n : Nat) (fs : FS) : FD := fun ds st => match fs (ds.map some ++ List.replicate (n - ds.length) none) st with
  | some (.nx, _, st') => some (.ok .non, st')
  | some (.rt d, _, st') => some (.ok d, st')
  | some (.er c, _, st') => some (.er c, st')
  | _ => none
theorem re_start {g : Gs} [nl : NoLam g] {ms : List Addr} {H : Hp} {N : List Str} {ds : List D} {vs : List V} (r : RlA g ms H ds vs) : Re g ms H (ds.map some ++ List.replicate (N.length - ds.length) none) (L2.start N vs) := by
  have hl := r.length
  refine ⟨by unfold L2.start; simp [hl], fun i d e => ?_, fun l e => by rw [nl.nl] at e; cases e⟩
  by_cases hi : i < ds.length
  · rw [List.getElem?_append_left (by simpa using hi), List.getElem?_map] at e
    cases hd : ds[i]? with
    | none =>
      rw [hd] at e
      cases e
    | some d' =>
      rw [hd] at e
      cases e
      obtain ⟨v, h1, h2⟩ := r.get hd
      refine ⟨v, ?_, h2⟩
      unfold L2.start
      rw [List.getElem?_append_left (by simpa [← hl] using hi), List.getElem?_map, h1]
      rfl
  · rw [List.getElem?_append_right (by simpa using hi)] at e
    have := List.mem_of_getElem? e
    simp at this
/-- a def's context -/
abbrev defC (g : Gs) (N : List Str) (st : Stmt) (k : Nat) (E : XK) : Cxt := { g := g, N := N, sc := defScope st, k := k, E := E, own := fun _ => true }
/-- a reading of a def's body, at its entry -/
theorem spOf_body {g : Gs} [NoLam g] {N : List Str} {n : Nat} {E : XK} {t : TS} {fs : FS} (rt : RdS g E t fs) {vs : List V} {H : Hp} {Q : VK} (h : spOf g n (fdOf N.length fs) vs H Q E) : t { nx := fun _ H' => Q .non H', rt := Q } (L2.start N vs) H := by
  obtain ⟨ds, ms, st, r, st', hl, rs, ra, e, hq⟩ := h
  unfold fdOf at e
  split at e
  · rename_i env1 st1 e1
    cases e
    exact rt _ _ _ _ _ e1 ms _ H rs (re_start ra) _ fun ms1 H1 σ1 fw rs1 re1 => hq ms1 H1 fw rs1 _ .non
  · rename_i d env1 st1 e1
    cases e
    exact rt _ _ _ _ _ e1 ms _ H rs (re_start ra) _ fun ms1 H1 σ1 fw rs1 re1 v hv => hq ms1 H1 fw rs1 v hv
  · rename_i c env1 st1 e1
    cases e
    exact rt _ _ _ _ _ e1 ms _ H rs (re_start ra) _ fun ms1 H1 σ1 fw rs1 re1 => hq ms1 H1 fw rs1
  · cases e
theorem spOf_len {g : Gs} {n : Nat} {fd : FD} : ∀ vs H Q E, spOf g n fd vs H Q E → vs.length = n := fun vs H Q E h => by
  obtain ⟨ds, ms, st, r, st', hl, rs, ra, e, hq⟩ := h
  rw [← hl, ra.length]
theorem defOk_of {g : Gs} [NoLam g] {k : Nat} {x : Str} {st : Stmt} {ps N : List Str} {f : Addr} {fdat : FuncData} {fs : FS} (F : L2.Fun g.K x x st f fdat) (hm : g.mg x = some (.ref f)) (S : FnScope N ps (defScope st)) (h : ∀ E, SimSs (defC g N st k E) (defBody st) fs) : DefOk g (k + 1) x st ps (fdOf N.length fs) := by
  refine ⟨f, fdat, F, hm, F.okX S spOf_len fun cdv A outer s H vs Q E hr hsp => ?_⟩
  obtain ⟨t, pt, rt⟩ := h E
  refine ⟨t, pt _ ⟨rfl, rfl, rfl, rfl, rfl, rfl, rfl, rfl, hr, fun z => (by cases z), fun _ _ z => (by cases z), S.nd, fun _ _ => rfl, passes_of rfl, takes_of rfl rfl rfl rfl, trivial⟩, spOf_body rt hsp⟩

/-! ### calls -/
def fCall (n : Nat) (fd : FD) (fr : F3 (List D)) : F3 D := bnd fr fun ds _ st => if ds.length = n then fd ds st else none
section
variable {c : Cxt} {a b e : Expr} {es : List Expr} {fa fb : F3 D} {fr : F3 (List D)} {pos p p2 : Pos} {x : Str} {k : Nat} {st : Stmt} {ps : List Str} {fd : FD}
theorem Rd.call {E : XK} {g : Gs} {t : TA} {n : Nat} (r : Rd g E (RlA g) t fr) : Rd g E (Rl g) (tCall (spOf g n fd) [] E t) (fCall n fd fr) := by
  intro env st rr st' e ms σ H rs re Q hq
  refine r.bind e rs re (fun ds st1 ms1 H1 fw rs1 re1 e1 vs hv => ?_) fun c ms1 H1 er fw rs1 => out_er hq er fw rs1
  split at e1
  · rename_i hl
    show spOf g n fd (vs ++ []) H1 Q E
    rw [List.append_nil]
    exact ⟨ds, ms1, st1, rr, st', hl, rs1, hv, e1, fun ms2 H2 fw2 rs2 => hq ms2 H2 (fw.trans fw2) rs2⟩
  · cases e1
theorem OkX.fn_ok {X : Cx} (o : OkX c X) {f : Addr} {fdat : FuncData} {sp : Sp} (h : FnOk c.g.P c.g.w c.g.K c.g.mg c.g.base (L2.CX c.g.P c.g.w) k f fdat ps sp) : FnOk X.prog X.w X.K X.mg X.base (L2.CX X.prog X.w) k f fdat ps sp := by
  rw [o.prog, o.w, o.K, o.mg, o.base]
  exact h
abbrev BindsBy (x : Str) (st : Stmt) (n : Nat) (ps : List Str) : Prop := ∀ (kV doc pm : Value) (an : Option Addr) (cdv ct : Value) (us : List Value), us.length = n → bindArgs (PySem.W.fnOf x x (defArgs st) (defBody st) (defScope st) .none kV doc pm an cdv ct) ⟨us, []⟩ = pure (ps.zip us)
theorem simE_call {n : Nat} (F : DefOk c.g k x st ps fd) (hk : k ≤ c.k) (hg : glB c.sc x = true) (hb : BindsBy x st n ps) (ha : SimA c (e :: es) fr) (hn : n = ps.length := by rfl) (hp : plainA (e :: es) = true := by rfl) : SimE c (.Call (.Name x p) (e :: es) [] pos) (fCall n fd fr) := by
  subst hn
  obtain ⟨t, q, r⟩ := ha
  obtain ⟨f, fdat, Fu, hm, Fn⟩ := F.ex
  obtain ⟨h1, h2⟩ := plain_head hp
  exact ⟨_, fun X o => pe_call (o.fn_ok Fn) (o.room.mono hk) (o.gl hg) (by rw [o.mg]; exact hm) (by rw [o.K]; exact Fu.kp) (by rw [o.K]; exact Fu.binds hb) .nil o.pass (q X o) (glB_nd hg) (starEach_plain h1) (star_any h2), r.call⟩
theorem simE_call0 (F : DefOk c.g k x st [] fd) (hk : k ≤ c.k) (hg : glB c.sc x = true) (hb : BindsBy x st 0 []) : SimE c (.Call (.Name x p) [] [] pos) (fCall 0 fd fNil) := by
  obtain ⟨f, fdat, Fu, hm, Fn⟩ := F.ex
  have hn : Rd c.g c.E (RlA c.g) tNil fNil := Rd.ret (fun _ _ => .nil) fun _ _ _ h => by cases h; rfl
  exact ⟨_, fun X o => pe_call0 (o.fn_ok Fn) (o.room.mono hk) (o.gl hg) (by rw [o.mg]; exact hm) (by rw [o.K]; exact Fu.kp) (by rw [o.K]; exact Fu.binds hb) .nil o.pass (glB_nd hg), hn.call⟩

/-! ### keywords only -/
def kwE (ks : List Keyword) : List Expr := ks.map fun k => match k with | ⟨_, e, _⟩ => e
def SimK (c : Cxt) (kws : List Keyword) (f : F3 (List D)) : Prop := ∃ t : TA, (∀ X, OkX c X → PK X kws t) ∧ Rd c.g c.E (RlA c.g) t f
theorem simK_nil : SimK c [] fNil := ⟨tNil, fun X o => pk_nil, Rd.ret (fun _ _ => .nil) fun _ _ _ h => by cases h; rfl⟩
theorem simK_cons {nm : Option Str} {kpos : Pos} {kws : List Keyword} (ha : SimE c a fa) (hr : SimK c kws fr) : SimK c (⟨nm, a, kpos⟩ :: kws) (fCons fa fr) := by
  obtain ⟨t, q, r⟩ := ha
  obtain ⟨t2, q2, r2⟩ := hr
  exact ⟨tCons t t2, fun X o => pk_cons (q X o) (q2 X o), r.cons r2⟩
/-- the keywords' values in the parameters' order: is tells which keyword stands for the parameter -/
def perm {α : Type} (is : List Nat) (l : List α) : Option (List α) := is.mapM fun i => l[i]?
def fCallK (is : List Nat) (fd : FD) (fr : F3 (List D)) : F3 D := bnd fr fun ds _ st => if ds.length = is.length then (match perm is ds with
  | some es => fd es st
  | none => none) else none
theorem perm_len {α : Type} : ∀ {is : List Nat} {l m : List α}, perm is l = some m → m.length = is.length
  | [], _, m, h => by
    have z : some [] = some m := h
    cases z
    rfl
  | i :: is, l, m, h => by
    unfold perm at h
    rw [List.mapM_cons] at h
    cases h1 : l[i]? with
    | none => rw [h1] at h; cases h
    | some x =>
      rw [h1] at h
      cases h2 : is.mapM (fun i => l[i]?) with
      | none => rw [h2] at h; cases h
      | some ys =>
        rw [h2] at h
        cases h
        rw [List.length_cons, perm_len (l := l) h2, List.length_cons]
theorem perm_rel {α β : Type} {R : List α → List β → Prop} {is : List Nat} : ∀ {l m : List α} {k : List β}, (∀ (i : Nat) (x : α), l[i]? = some x → ∃ y, k[i]? = some y ∧ R [x] [y]) → (R [] []) → (∀ x y xs ys, R [x] [y] → R xs ys → R (x :: xs) (y :: ys)) → perm is l = some m → ∃ n, perm is k = some n ∧ R m n := by
  induction is with
  | nil =>
    intro l m k h h0 hc e
    have z : some [] = some m := e
    cases z
    exact ⟨[], rfl, h0⟩
  | cons i is ih =>
    intro l m k h h0 hc e
    unfold perm at e ⊢
    rw [List.mapM_cons] at e ⊢
    cases h1 : l[i]? with
    | none => rw [h1] at e; cases e
    | some x =>
      rw [h1] at e
      cases h2 : is.mapM (fun i => l[i]?) with
      | none => rw [h2] at e; cases e
      | some ys =>
        rw [h2] at e
        cases e
        obtain ⟨y, k1, k2⟩ := h i x h1
        obtain ⟨n, k3, k4⟩ := ih h h0 hc h2
        unfold perm at k3
        rw [k1, k3]
        exact ⟨y :: n, rfl, hc _ _ _ _ k2 k4⟩
theorem simE_callK {kws : List Keyword} {ks : List Str} (is : List Nat) (F : DefOk c.g k x st ps fd) (hk : k ≤ c.k) (hg : glB c.sc x = true) (hlen : is.length = ps.length) (hks : ∀ env : Env, (backToKw pos (keywordEach kws env)).filterMap (·.1) = ks) (hall : ∀ env : Env, (backToKw pos (keywordEach kws env)).all (·.1.isSome) = true)
    (hno : ∀ env : Env, ((backTo pos (starEach [] env)).any (·.1) || (backToKw pos (keywordEach kws env)).any (·.1.isNone)) = false)
    (hb : ∀ (kV doc pm : Value) (an : Option Addr) (cdv ct : Value) (ws ys : List Value), ws.length = is.length → perm is ws = some ys → bindArgs (PySem.W.fnOf x x (defArgs st) (defBody st) (defScope st) .none kV doc pm an cdv ct) ⟨[], ks.zip ws⟩ = pure (ps.zip ys)) (ha : SimK c kws fr) : SimE c (.Call (.Name x p) [] kws pos) (fCallK is fd fr) := by
  obtain ⟨t, q, r⟩ := ha
  obtain ⟨f, fdat, Fu, hm, Fn⟩ := F.ex
  refine ⟨fun σ H Q => t σ H fun zs H2 => zs.length = is.length ∧ ∃ ys, perm is zs = some ys ∧ spOf c.g ps.length fd ys H2 Q c.E, fun X o => ?_, ?_⟩
  · refine ⟨fun pins s σ H Q I h => wpAny_Call_Name_kw (ld_glob I (o.gl hg) (by rw [o.mg]; exact hm) ?_ (glB_nd hg))⟩
    refine PySem.W.callWith_KW0 (h₀ := X.base) I.ok.mod.kin (by rw [o.K]; exact Fu.kp) (hall X.env) (thn ((q X o).run pos pins s σ H _ I h) fun ws s2 hw => ?_) (hno X.env)
    obtain ⟨zs, H2, I2, rz, hz, ys, hys, hsp⟩ := hw
    refine ⟨I2.kIn, ?_⟩
    rw [hks X.env]
    obtain ⟨us, hu1, hu2⟩ := perm_rel (R := fun xs us => Vals xs us) (fun i y hy => by
      obtain ⟨u, h1, h2⟩ := rz.get hy
      exact ⟨u, h1, .cons h2 .nil⟩) .nil (fun _ _ _ _ h1 h2 => by
        cases h1 with
        | cons h _ => exact .cons h h2) hys
    have bd : bindArgs fdat ⟨[], ks.zip ws⟩ = pure (ps.zip us) := by
      obtain ⟨oc, od, kV, doc, pm, an, cdv, ct, osl, rfl, _, _⟩ := Fu.ex
      exact hb kV doc pm an cdv ct ws us (by rw [← rz.length]; exact hz) hu1
    refine wpAny_call (codeAny_mono ((o.fn_ok Fn).run X.A X.stack s2 H2 ⟨[], ks.zip ws⟩ us ys Q c.E (o.room.mono hk) I2.env0 (.of_eq bd) hu2 hsp) fun r' s' hr => ?_)
    cases r' with
    | error e => exact o.pass pins σ H2 s2 e s' I2 hr
    | ok fl => cases fl <;> first | exact I2.after hr | exact hr.elim
  · intro env st0 rr st' e ms σ H rs re Q hq
    refine r.bind e rs re (fun ds st1 ms1 H1 fw rs1 re1 e1 vs hv => ?_) fun c ms1 H1 er fw rs1 => out_er hq er fw rs1
    split at e1
    · rename_i hl
      split at e1
      · rename_i es he
        obtain ⟨ys, hy1, hy2⟩ := perm_rel (R := fun xs us => RlA c.g ms1 H1 xs us) (fun i y hy => by
          obtain ⟨u, h1, h2⟩ := hv.get hy
          exact ⟨u, h1, .one h2⟩) .nil (fun _ _ _ _ h1 h2 => by
            cases h1 with
            | cons h _ => exact .cons h h2) he
        exact ⟨by rw [← hv.length]; exact hl, ys, hy1, es, ms1, st1, rr, st', by rw [perm_len he, hlen], rs1, hy2, e1, fun ms2 H2 fw2 rs2 => hq ms2 H2 (fw.trans fw2) rs2⟩
      · cases e1
    · cases e1

/-! ### raise -/
/-- what is known of an own class of exceptions: bm, the base's rows -/
structure ExcOk (g : Gs) (bm : List Value) (newId : String) (x : Str) (i : Nat) : Prop where
  exc : PySem.W.excIn g.K (g.cl i) bm newId = true
  mg : g.mg x = some (.ref (g.cl i))
  kp : PySem.W.keepIn g.K (.ref (g.cl i)) = true
  sub : PySem.W.subIn g.K (.ref (g.cl i)) (.type "BaseException") = some true
  ty : PySem.W.typeIn g.K (.ref (g.cl i)) = some (.type "type")
theorem simS_raise {p3 : Pos} {B newId initId : String} {bm : List Value} {i j : Nat} {m : Str} (F : ExcBaseFacts B newId initId bm) (h : ExcOk c.g bm newId x i) (hg : glB c.sc x = true) : SimS c (.Raise (some (.Call (.Name x p) [.Constant (.str m) j p2] [] pos)) none p3) (fun env st => some (.er i, env, st)) := by
  refine ⟨_, fun X o => ps_raise o.calm o.tk (pmk_own F (by rw [o.K]; exact h.exc) (by rw [o.mg]; exact h.mg) (by rw [o.K]; exact h.kp) (raises_own (by rw [o.K]; exact h.sub) (by rw [o.K]; exact h.ty)) (o.gl hg) (glB_nd hg)), ?_⟩
  intro env st r env' st' e ms σ H rs re Dn hq
  cases e
  exact hq ms H σ (Fw.refl ms H) rs re
end
end S3

set_option maxHeartbeats 2000000
/-! S3J: an exception that is caught, kept as a value and asked for its class; lambdas handed to the catcher. -/
namespace S3
open PySem PySem.Spec PyProof.Rows L2

section
variable {X : Cx} {pins : List (Addr × Obj)} {σ : L2.St} {H : Hp} {s0 s1 : Shared} {B : Heap} {a : Addr}
/-- the caught object is tracked from now on -/
theorem land_held {C : Addr} {oe : Obj} {vs : Array Value} (I : Inv X pins σ H s0) (gr : ∀ b o, s0.heap.get? b = some o → b ∉ frs X.stack → B.get? b = some o) (bk : B.StaysIn s1.heap) (up : s0.heap.UpToSlots s1.heap) (eo : s1.os = s0.os) (eg : AllBare s1.gens)
    (ba : B.get? a = none) (fa : a ∉ frs X.stack) (na : H a = none) (he : s1.heap.get? a = some oe) (hz : Zc (.ref C) none oe) (hd : oe.data = .fields vs) : Inv X pins σ (upd H a (ExV C a)) s1 := by
  have n0 : ∀ b o, s0.heap.get? b = some o → b ≠ a := fun b o e z => by
    have q := gr b o e (by rw [z]; exact fa)
    rw [z, ba] at q
    cases q
  have frm : ∀ b o, b ∈ frs X.stack → s0.heap.get? b = some o → ∃ sl, s1.heap.get? b = some { o with slots := sl } := fun b o hb e => by
    obtain ⟨_, u, e2, hu⟩ := I.stack.mem hb
    rw [e] at e2
    cases e2
    exact up b o e hu
  have J := I.call (ch := []) (h' := s1.heap) (g' := s1.gens) (t' := s1.toks) (d' := s1.drawn) (H' := upd H a (ExV C a))
    ⟨fun b o e _ hb _ => bk b o (gr b o e hb), fun b o e _ hb _ => frm b o hb e, fun b o e n _ => (upd_ne (n0 b o e)).trans n, fun b o e _ => by
      by_cases hb : b ∈ frs X.stack
      · exact ⟨_, (frm b o hb e).choose_spec⟩
      · exact ⟨o, bk b o (gr b o e hb)⟩, fun b xs e => (upd_ne (ne_of_none e na)).trans e, fun b o xs e => (upd_ne (ne_of_none e na)).trans e, fun b ps e => ⟨#[], by rw [upd_ne (ne_of_none e na), e]; simp⟩⟩
    ((I.inGround gr).laidN bk na ⟨⟨oe, vs, he, hz, hd⟩, ⟨oe, he⟩, fun _ _ ⟨o, v, q, r⟩ k => ⟨o, v, k o q, r⟩⟩) eg (fun _ z => nomatch z)
  obtain ⟨h, g, d, t, os⟩ := s1
  obtain rfl : os = s0.os := eo
  exact J
theorem Inv.toSuite (I : Inv X pins σ H s0) : Inv (X.suite a (X.pn ++ pins)) [] σ H s0 :=
  ⟨I.ok.suite _ _, I.os, I.bare, I.base, I.loc, I.cell, I.free, I.freeC, fun p hp => I.pin p (by rw [List.append_nil] at hp; exact hp), I.hok, I.len⟩
theorem Inv.ofSuite {pn' : List (Addr × Obj)} (I : Inv (X.suite a (X.pn ++ pins)) pn' σ H s0) (ok : X.Ok) : Inv X pins σ H s0 :=
  ⟨ok, I.os, I.bare, I.base, I.loc, I.cell, I.free, I.freeC, fun p hp => I.pin p (List.mem_append_left _ hp), I.hok, I.len⟩
end

/-- what a clause wishes that keeps the caught object -/
def wKeep (K : PySem.W.Frag) (cls0 : Value) (i : Nat) (ts : TS) (Dn : Ends) : WX := fun cls d σ H => PySem.W.exmOne K cls cls0 = some true ∧ d = none ∧ ∃ C, cls = .ref C ∧ ∀ a, H a = none →
  ts { nx := fun σ' H' => Dn.nx (σ'.set i none) H', rt := Dn.rt, bk := fun σ' H' => Dn.bk (σ'.set i none) H', ct := fun σ' H' => Dn.ct (σ'.set i none) H' } (σ.set i (some (.ref a))) (upd H a (ExV C a))
section
variable {X : Cx} {x n : Str} {cls0 : Value} {i : Nat} {body suite : List Stmt} {b0 : Stmt} {np pos pos2 : Pos} {tb : WX → TS} {ts : TS}
/-- try: .. / except x as n: .., where x's class takes whatever comes -/
theorem ps_try_keep (hs : X.stack = X.env :: X.outer) (hf : X.env.frame = some X.env.locals) (hN : X.N.Nodup) (hi : X.N[i]? = some n) (hln : X.env.kindOf n = some .local) (hc : Names X x cls0)
    (hb : ∀ (W : WX) (pn : List (Addr × Obj)) (xe : Value → Shared → Prop), Takes (X.tr pn xe) W → PSs (X.tr pn xe) body (tb W))
    (hsu : ∀ (a : Addr) (pn : List (Addr × Obj)), PSs (X.suite a pn) (b0 :: suite) ts) :
    PS X (.Try body [.ExceptHandler (some (.Name x np)) (some n) (b0 :: suite) pos2] [] [] pos) (fun Dn σ H => tb (wKeep X.K cls0 i ts Dn) Dn σ H) := by
  refine ⟨fun pins s σ H Dn I h => wpAny_Try_except ?_⟩
  have ok := I.ok
  have afr : X.A.frames = some (X.env :: X.outer) := by rw [ok.frames, hs]
  have body_ := (hb (wKeep X.K cls0 i ts Dn) (X.pn ++ pins) (fun e t1 => wpAny (model X.prog X.w) X.A (noteFrame e X.env) (fun _ t2 => wpAny (model X.prog X.w) X.A (setFlight e none) (fun _ t3 =>
    wpAny (model X.prog X.w) X.A (handleBy e X.env [.ExceptHandler (some (.Name x np)) (some n) (b0 :: suite) pos2]) (SP X pins Dn) X.xe t3) X.xe t2) X.xe t1) fun u t0 air => ?_).run [] s σ H Dn (I.toTry _) h
  · refine wpAny_mono body_ (fun f t1 q => ?_) fun _ _ q => q
    cases f with
    | ret u =>
      obtain ⟨v, τ, G, J, r, w⟩ := q
      exact ⟨v, τ, G, J.ofTry ok, r, w⟩
    | next =>
      obtain ⟨τ, G, J, w⟩ := q
      exact wpAny_execs_nil ⟨τ, G, J.ofTry ok, w⟩
    | brk =>
      obtain ⟨τ, G, J, w⟩ := q
      exact ⟨τ, G, J.ofTry ok, w⟩
    | cont =>
      obtain ⟨τ, G, J, w⟩ := q
      exact ⟨τ, G, J.ofTry ok, w⟩
  · obtain ⟨a, B, s0, pins0, τ, G, cls, d, rfl, J0, gr, up, sky, na, eo, eg, tst, rfl, C, rfl, hyes⟩ := air
    have J : Inv X pins τ G s0 := J0.ofTry ok
    show wpAny (model X.prog X.w) X.A (noteFrame (.ref a) X.env) _ _ _
    have sky2 : Sky B (X.env :: X.outer) a (Zc (.ref C) none) X.env.locals t0.heap := by rw [← hs]; exact sky
    refine Sky.land Zc.steady afr hf sky2 fun h3 fl3 up3 => ?_
    have notF : ∀ {h : Heap} {o : Obj} {vs : Array Value}, h.FunFrames B (X.env :: X.outer) → h.get? a = some o → o.data = .fields vs → a ∉ frs X.stack := fun {h o vs} ff e dd hm => by
      rw [hs] at hm
      obtain ⟨_, o2, e2, no⟩ := ff.mem hm
      rw [e] at e2
      cases e2
      exact no _ dd
    obtain ⟨oe3, vs3, he3, hz3, hd3⟩ := fl3.there
    have nf := notF fl3.2.2.1 he3 hd3
    have J3 : Inv X pins τ (upd G a (ExV C a)) { t0 with heap := h3 } := land_held J gr fl3.1 (up.trans up3) eo eg fl3.2.1 nf na he3 hz3 hd3
    refine wpAny_handleBy_cons (codeAny_handlers_test ?_) (by intro q; cases q)
    have ty : PySem.W.Looks (model X.prog X.w) h3 (typeOf (.ref a)) (.ref C) := fun A Q E s k q => wpAny_typeOf_ref (k _ _ he3) (by rw [hz3.1]; exact q)
    have named : ∀ {Q : Value → Shared → Prop} {E : Value → Shared → Prop}, Q cls0 { t0 with heap := h3 } → wpAny (model X.prog X.w) (X.A.mark (some (.ref a))) (eval (.Name x np) X.env) Q E { t0 with heap := h3 } := fun {Q E} q => by
      have S3' : Inv (X.suite a (X.pn ++ pins)) [] τ (upd G a (ExV C a)) { t0 with heap := h3 } := Inv.toSuite J3
      obtain ⟨g1, g2, g3 | ⟨g3, g4, g5⟩⟩ := hc
      · exact ld_glob (X := X.suite a (X.pn ++ pins)) S3' g1 g3 q g2
      · exact ld_blt (X := X.suite a (X.pn ++ pins)) S3' g1 g3 g4 q g5 g2
    refine named ((PySem.W.exm_one (M := model X.prog X.w) J3.kIn ty tst).here (codeAny_handlers_suite_as ?_))
    refine HandSPX.lands_againZ fl3 fun h4 fl4 up4 => ?_
    obtain ⟨oe4, vs4, he4, hz4, hd4⟩ := fl4.there
    have J4 : Inv X pins τ (upd G a (ExV C a)) { t0 with heap := h4 } := land_held J gr fl4.1 ((up.trans up3).trans up4) eo eg fl4.2.1 nf na he4 hz4 hd4
    refine store_ok (X := X.suite a (X.pn ++ pins)) (v := .ref a) (Inv.toSuite J4) hN hi (.inl hln) rfl (fun s5 J5 => ?_) (.inr hln)
    refine wpAny_mono ((hsu a (X.pn ++ pins)).run [] s5 _ _ _ J5 (hyes a na)) (fun f s6 q => ?_) fun _ _ z => False.elim z
    have fin : ∀ {τ6 : L2.St} {G6 : Hp} {Q : Shared → Prop}, Inv (X.suite a (X.pn ++ pins)) [] τ6 G6 s6 → (∀ s7, Inv X pins (τ6.set i none) G6 s7 → Q s7) → wpAny (model X.prog X.w) X.A (do bindName X.env n .none; unbindBehindTheSuite X.env n pos2) (fun _ s7 => Q s7) X.xe s6 :=
      fun {τ6 G6 Q} J6 k => gone_ok (Inv.ofSuite J6 ok) hN hi hln k
    cases f with
    | ret u =>
      obtain ⟨v, τ6, G6, J6, r, w⟩ := q
      exact fin J6 fun s7 J7 => ⟨_, _, _, J7, r, w⟩
    | next =>
      obtain ⟨τ6, G6, J6, w⟩ := q
      exact fin J6 fun s7 J7 => ⟨_, _, J7, w⟩
    | brk =>
      obtain ⟨τ6, G6, J6, w⟩ := q
      exact fin J6 fun s7 J7 => ⟨_, _, J7, w⟩
    | cont =>
      obtain ⟨τ6, G6, J6, w⟩ := q
      exact fin J6 fun s7 J7 => ⟨_, _, J7, w⟩
end
end S3

set_option maxHeartbeats 2000000
/-! S3K: the catcher and its lambdas. -/
namespace S3
open PySem PySem.Spec PyProof.Rows L2

/-- what the catcher makes of the lambda's reading -/
def TKeep (K : PySem.W.Frag) (cls0 : Value) : (XK → Hp → VK → Prop) → Hp → VK → Prop := fun tl H Q =>
  tl (fun cls d H' => PySem.W.exmOne K cls cls0 = some true ∧ d = none ∧ ∃ C, cls = .ref C ∧ ∀ a, H' a = none → Q (.ref a) (upd H' a (ExV C a))) H (fun _ H' => Q .non H')
/-- the catcher's body -/
def catchB (w er ca ex : Str) (p1 p2 p3 p4 p5 p6 p7 p8 p9 p10 p11 p12 p13 p14 p15 p16 : Pos) : List Stmt :=
  [.Assign [.Name er p1] (.Constant .none 0 p2) p3,
   .Try [.Expr (.Call (.Name w p4) [] [] p5) p6] [.ExceptHandler (some (.Name ex p7)) (some ca) [.Assign [.Name er p8] (.Name ca p9) p10] p11] [] [] p12,
   .Return (some (.Name er p13)) p14]
theorem catch_gives {X : Cx} {x w er ca ex q : Str} {sg : Scope} {g CS : Addr} {cdg : Value} {p1 p2 p3 p4 p5 p6 p7 p8 p9 p10 p11 p12 p13 p14 p15 p16 : Pos} (hnd : [w, er, ca].Nodup)
    (h1 : sg.names.lookup w = some .local) (h2 : sg.names.lookup er = some .local) (h3 : sg.names.lookup ca = some .local) (h4 : sg.names.lookup ex = some .globalImplicit) (hm : X.mg ex = some (.ref CS)) (d4 : (ex == ("__debug__" : Str)) = false)
    (d2 : (er == ("__debug__" : Str)) = false) (d3 : (ca == ("__debug__" : Str)) = false) (c2 : (er == ("__classdict__" : Str)) = false) (c3 : (ca == ("__classdict__" : Str)) = false) :
    LamX.GivesTo X [w, er, ca] x sg g cdg (catchB w er ca ex p1 p2 p3 p4 p5 p6 p7 p8 p9 p10 p11 p12 p13 p14 p15 p16) w q (TKeep X.K (.ref CS)) := by
  intro f c' s H Q tl act hc h
  have v2 : Vis sg er := .inl h2
  have v3 : Vis sg ca := .inl h3
  refine ⟨_, pss_cons (ps_set (i := 1) hnd rfl (.inl h2) pe_non (by rfl) (.inr h2)) (pss_cons (ps_try_keep (X := (cxOf C8.CX0 X.prog X.w X.K X.mg X.base [w, er, ca] x sg g cdg X.A X.stack s H C8.E0).nox) (cls0 := .ref CS) (i := 2)
      (tb := fun W Dn σ H => ∃ Ech : XK, (∀ cls d σ' H', Ech cls d H' → σ'.length = 3 → W cls d σ' H') ∧ σ[0]? = some (some (.ref f)) ∧ H c' = some (LamX.CodeO c' q) ∧ tl Ech H fun _ H' => Dn.nx σ H')
      (ts := tAsg (tVar 2) (gName 1)) rfl rfl hnd rfl h3 ⟨h4, d4, .inl hm⟩ (fun W pn xe tk => ?_) fun a pn => ?_) (pss_one (ps_ret (pe_var (i := 1) rfl v2 d2 c2)))), ?_⟩
  · refine ⟨fun pins s' σ H' Dn I hh => ?_⟩
    obtain ⟨Ech, hW, k1, k2, k3⟩ := hh
    have tk2 : Takes ((cxOf C8.CX0 X.prog X.w X.K X.mg X.base [w, er, ca] x sg g cdg X.A X.stack s H C8.E0).tr pn xe) (fun cls d σ' H' => σ'.length = 3 → W cls d σ' H') := fun u s2 ⟨a, B, sI, pins2, σ2, H2, cls, d, e, J, nb, up, sky, na, os, ag, ww⟩ => tk u s2 ⟨a, B, sI, pins2, σ2, H2, cls, d, e, J, nb, up, sky, na, os, ag, ww J.len⟩
    have hp := act _ pn xe Ech p4 p5 tk2 fun cls d σ' H' z l => hW cls d σ' H' z l
    exact (pss_one (ps_expr (pos := p6) hp (by rfl))).run pins s' σ H' Dn I ⟨k1, k2, k3⟩
  · exact pss_one (ps_set (i := 1) hnd rfl (.inl h2) (pe_var (i := 2) rfl v3 d3 c3) (by rfl) (.inr h2))
  · have eq : (fun (_ : V) H' => Q V.non H') = fun _ H' => tRet (tVar 1) { nx := fun _ H' => Q .non H', rt := Q } ((L2.start [w, er, ca] [V.ref f]).set 1 (some V.non)) H' := by
      funext _ H'
      exact propext ⟨fun z => ⟨.non, rfl, z⟩, fun ⟨v, z1, z2⟩ => by
        cases z1
        exact z2⟩
    unfold TKeep at h
    rw [eq] at h
    refine ⟨_, fun cls d σ' H' ⟨e1, e2, C, e3, e4⟩ hl => ⟨e1, e2, C, e3, fun a ha => ?_⟩, rfl, hc, h⟩
    match σ', hl with
    | [u0, u1, u2], _ => exact ⟨_, rfl, _, rfl, e4 a ha⟩

section
variable {c : Cxt} {body : Expr} {fb : F3 D} {scope : Scope} {params : Arguments} {lpos pos p : Pos}
abbrev Cxt.lamC (c : Cxt) (scope : Scope) (k : Nat) (E : XK) : Cxt := { c with sc := scope, k := k, E := E, own := fun _ => false, gd := false, lam := none, hx := fun _ => True }
theorem OkX.lamC {X : Cx} (o : OkX c X) {A : Around} {outer : List Env} {s : Shared} {H : Hp} {E : XK} {scope : Scope} {f c' : Addr} {k : Nat} (hr : Room k (A.deeper (LamX.lamEnv X scope s.heap.objs.size f c'))) : OkX (c.lamC scope k E) (LamX.lamCx X A outer s H E scope f c') where
  prog := o.prog
  w := o.w
  K := o.K
  mg := o.mg
  base := o.base
  N := o.N
  sc := rfl
  calm := rfl
  room := hr
  guards := fun z => (by cases z)
  lamb := fun _ _ z => (by cases z)
  nd := o.nd
  fn := fun _ z => (by cases z)
  po := passes_of rfl
  tk := takes_of rfl rfl rfl rfl
  hx := trivial
def fCaught (fb : F3 D) : F3 D := fun env st => match fb env st with
  | some (.ok _, st') => some (.ok .non, st')
  | some (.er i, st') => some (.ok (.exn i), st')
  | none => none
/-- what is known of the catcher -/
structure CatchOk (g : Gs) (x w : Str) (cls0 : Addr) : Prop where
  ex : ∃ (f : Addr) (fdat : FuncData) (st : Stmt) (er ca ex : Str) (p1 p2 p3 p4 p5 p6 p7 p8 p9 p10 p11 p12 p13 p14 p15 p16 : Pos), L2.Fun g.K x x st f fdat ∧ g.mg x = some (.ref f) ∧ defBody st = catchB w er ca ex p1 p2 p3 p4 p5 p6 p7 p8 p9 p10 p11 p12 p13 p14 p15 p16 ∧
    FnScope [w, er, ca] [w] (defScope st) ∧ (defScope st).names.lookup w = some .local ∧ (defScope st).names.lookup er = some .local ∧ (defScope st).names.lookup ca = some .local ∧ (defScope st).names.lookup ex = some .globalImplicit ∧ g.mg ex = some (.ref cls0) ∧ (ex == ("__debug__" : Str)) = false ∧
    (er == ("__debug__" : Str)) = false ∧ (ca == ("__debug__" : Str)) = false ∧ (er == ("__classdict__" : Str)) = false ∧ (ca == ("__classdict__" : Str)) = false ∧
    (w == ("__debug__" : Str)) = false ∧ (w == ("__classdict__" : Str)) = false ∧ (∀ (kV doc pm : Value) (an : Option Addr) (cdv ct : Value) (us : List Value), us.length = 1 → bindArgs (PySem.W.fnOf x x (defArgs st) (defBody st) (defScope st) .none kV doc pm an cdv ct) ⟨us, []⟩ = pure ([w].zip us))
  all : ∀ i, PySem.W.exmOne g.K (.ref (g.cl i)) (.ref cls0) = some true
theorem simE_caught {x w : Str} {cls0 u P : Addr} {q : Str} {k : Nat} (C : CatchOk c.g x w cls0) (hl : c.lam = some (u, q)) (TB : LamX.TabB c.g.base c.g.mg u P) (hT : (P, q ++ "<lambda>") ∈ c.g.T) (hu : ∀ p ∈ c.g.T, p.1 = P → p.2 = q ++ "<lambda>") (hk : k + 2 ≤ c.k) (hg : glB c.sc x = true)
    (hL : LamX.lamSB c.sc scope = true) (hdef : ∀ env : Env, defaultsOf params env = ([], [])) (hbind : ∀ (q : Str) (cl : List (Str × Addr)) (pm cv ctv : Value), bindArgs (PySem.W.kla_fn "<lambda>" q params body scope cl pm cv ctv) ⟨[], []⟩ = pure []) (hb : ∀ E, SimE (c.lamC scope k E) body fb) :
    SimE c (.Call (.Name x p) [.Lambda params body scope lpos] [] pos) (fCaught fb) := by
  obtain ⟨f, fdat, st, er, ca, ex, p1, p2, p3, p4, p5, p6, p7, p8, p9, p10, p11, p12, p13, p14, p15, p16, Fu, hm, hB, S, l1, l2, l3, l4, hx, d4, d2, d3, c2, c3, d1, c1, hbi⟩ := C.ex
  have bnd_ := Fu.binds (ps := [w]) hbi
  obtain ⟨⟨oc, od, kV, doc, pm, an, cdv, ct, osl, rfl, lk, hcd⟩, kp⟩ := Fu
  refine ⟨LamX.tLam c.g.T (TKeep c.g.K (.ref cls0)) fun E => (hb E).choose, fun X o => ?_, ?_⟩
  · obtain ⟨ec, eq⟩ := o.lamb u q hl
    refine LamX.pe_lamcall (c := u) (P := P) (k := k) (Ng := [w, er, ca]) (a := w) (o.gl hg) (by rw [o.mg]; exact hm) (by rw [o.K]; exact kp) (by rw [o.K]; exact lk) (by rw [o.K]; exact hcd) (by rw [o.K]; exact bnd_) S rfl (.inl l1) ?_
      (by rw [o.base, o.mg]; exact TB) ec (by rw [eq]; exact hT) (by rw [eq]; exact hu) (o.room.mono hk) (by rw [o.sc]; exact LamX.lamS_by hL) (hdef _) hbind (fun A outer s H E f' c' hr => (hb E).choose_spec.1 _ (o.lamC hr)) (glB_nd hg) d1 c1
    rw [hB, ← o.K]
    exact catch_gives (p15 := p15) (p16 := p16) S.nd l1 l2 l3 l4 (by rw [o.mg]; exact hx) d4 d2 d3 c2 c3
  · intro env st0 rr st' e ms σ H rs re Q hq
    refine ⟨rs.tabs, fun H1 eN T1 => ?_⟩
    have fw : Fw ms H ms H1 := ⟨List.prefix_rfl, ⟨fun b o hb' hf => eN b o hb' fun ps z => by rw [z] at hf; exact hf⟩⟩
    have rs1 : Rs c.g ms H1 st0 := ⟨rs.len, rs.nd, fun n o a e1 e2 => by
      have z := rs.at_ n o a e1 e2
      obtain ⟨y, hy, ny, nt, _⟩ := z.some
      exact z.mono fw ((eN a y hy nt).trans hy.symm), T1⟩
    unfold fCaught at e
    split at e
    · rename_i d st1 e1
      cases e
      exact (hb _).choose_spec.2 env st0 _ _ e1 ms σ H1 rs1 (re.mono fw) _ fun ms2 H2 fw2 rs2 b hb' => hq ms2 H2 (fw.trans fw2) rs2 _ .non
    · rename_i i st1 e1
      cases e
      refine (hb _).choose_spec.2 env st0 _ _ e1 ms σ H1 rs1 (re.mono fw) _ fun ms2 H2 fw2 rs2 => ⟨C.all i, rfl, _, rfl, fun a ha => ?_⟩
      obtain ⟨fw3, rs3⟩ := rs2.fresh (o := ExV (c.g.cl i) a) ha
      exact hq ms2 _ ((fw.trans fw2).trans fw3) rs3 _ (.exn upd_same)
    · cases e
end
end S3

set_option maxHeartbeats 4000000
/-! S3L: enumerate of tuples, list(range(n)), len(set(..)), isinstance of a caught error, repr. -/
namespace S3
open PySem PySem.Spec PyProof.Rows L2

/-! ### enumerate of a tuple -/
theorem meets_enum1 {v : Value} {o : Obj} {G : Heap → Prop} (B : PySem.Begins v o G) :
    Meets (Builtin.«enumerate.__new__» ⟨[.type "enumerate", v], []⟩) (fun _ R s => G s.heap ∧
      R (.ok (.ret (.ref (s.heap.push o).objs.size))) { s with heap := (s.heap.push o).push { cls := .type "enumerate", data := .fields #[.none, .bool false, .ref s.heap.objs.size, rawInt 0, .none, .none] } }) :=
  .of_wp fun prog w A R s h => by
    obtain ⟨hp, gs, dr, tk, os⟩ := s
    obtain ⟨hG, h⟩ := h
    have hs := PySem.sub_enumerate
    have it : ∀ {A' : Around} {E : Value → Shared → Prop} {Q : Value → Shared → Prop}, Q (.ref hp.objs.size) ⟨hp.push o, gs, dr, tk, os⟩ → wpAny (model prog w) A' (pyIter v) Q E ⟨hp, gs, dr, tk, os⟩ := fun q => B.iter prog w _ _ ⟨hp, gs, dr, tk, os⟩ _ hG q
    wp_walk using it
    refine wpAny_stack_any fun _ => wpAny_pure ?_
    split
    · rename_i ct _ _ _ _ _
      cases (ct == Value.type "enumerate") <;> (wp_walk using it; exact ⟨_, rfl, h⟩)
    · wp_walk using it
      exact ⟨_, rfl, h⟩
theorem call_enum1 {P : Program} {w : World} {A : Around} {E : Value → Shared → Prop} {s : Shared} {v : Value} {o : Obj} {G : Heap → Prop} {Q : Value → Shared → Prop} (B : PySem.Begins v o G) (hG : G s.heap)
    (h : ∀ h', IsEnum h' (s.heap.objs.size + 1) s.heap.objs.size 0 .none → h'.get? s.heap.objs.size = some o → (∀ b u, s.heap.get? b = some u → h'.get? b = some u) → Q (.ref (s.heap.objs.size + 1)) { s with heap := h' }) : wpAny (model P w) A (call (.type "enumerate") [v]) Q E s := by
  refine callType_new F.called_enumerate (by decide) (F.typeCall_enumerate_1 _) (F.newCall_enumerate_1 _) (fun ob => F.args_object_init_2 ob _) F.entry_enumerate_new (meets_enum1 B) ⟨hG, ?_⟩
  have sz : (s.heap.push o).objs.size = s.heap.objs.size + 1 := Heap.size_push ..
  have en : IsEnum ((s.heap.push o).push { cls := .type "enumerate", data := .fields #[.none, .bool false, .ref s.heap.objs.size, rawInt 0, .none, .none] }) (s.heap.objs.size + 1) s.heap.objs.size 0 .none := by
    rw [← sz]
    exact Heap.get?_push_size _ rfl
  show _ ∧ _
  rw [sz]
  exact ⟨⟨_, en, rfl⟩, h _ en (Heap.get?_push_of_some _ (Heap.get?_push_size _ B.free)) fun b u x => Heap.get?_push_of_some _ (Heap.get?_push_of_some _ x)⟩
/-- the tuple at a, each item with its number in a new pair -/
def IteT (K : PySem.W.Frag) (a : Addr) : It where
  go := fun i H => ∃ (xs : List V) (x : V), SqT K H a xs ∧ xs[i]? = some x
  yld := fun i H v H' => ∃ T x, v = .ref T ∧ H T = none ∧ H' = upd H T (.tup [.int (i : Nat), x]) ∧ ∀ xs, SqT K H a xs → xs[i]? = some x
  stop := fun i H => ∃ xs : List V, SqT K H a xs ∧ xs.length ≤ i
theorem turn_enumT {P : Program} {w : World} {K : PySem.W.Frag} {elts : List Expr} {kk : Nat} {tpos : Pos} (a e it : Addr) :
    Turn P w K (.Tuple elts kk tpos) (IteT K a) [e, it] e (fun i h => (∃ old, IsEnum h e it ((i : Nat) : Int) old) ∧ h.IsTupleIter it a i ∧ e ≠ it) where
  mem := by simp
  obj := fun i h st b hb => by
    obtain ⟨⟨old, he⟩, ⟨o, ho, _, hd⟩, _⟩ := st
    rcases (by simpa using hb : b = e ∨ b = it) with rfl | rfl
    · exact ⟨_, he, fun _ z => nomatch z⟩
    · exact ⟨o, ho, fun _ z => by rw [hd] at z; cases z⟩
  keep := fun i h h' st k => by
    obtain ⟨⟨old, he⟩, hi, ne⟩ := st
    exact ⟨⟨old, k e (by simp) _ he⟩, hi.at fun o q => k it (by simp) o q, ne⟩
  item := by
    intro X hP hw hK hc i pins s σ H E I hf st hg
    subst hP hw hK
    obtain ⟨⟨old, he⟩, hit, ne⟩ := st
    obtain ⟨xs, x, hq, hx⟩ := hg
    obtain ⟨its, rv, p, _⟩ := I.tuple hq
    have hlt : i < its.toArray.size := by
      rw [List.size_toArray, ← rv.length]
      exact (List.getElem?_eq_some_iff.mp hx).1
    have at_ : a ≠ it := fun z => by
      obtain ⟨o, h1, h2, _⟩ := hit
      obtain ⟨u, h3, h4, _⟩ := id p
      rw [z, h1] at h3
      cases h3
      rw [h2] at h4
      simp at h4
    have ae : e ≠ a := fun z => by
      obtain ⟨u, h3, h4, _⟩ := id p
      rw [← z, he] at h3
      cases h3
      simp at h4
    refine wpAny_pyNext_enum_itemD (Draws.tuple (show X.A.in1.handled = none from I.ok.hd hc) it a at_ its.toArray) he ⟨hit, p⟩ hlt ne (by simp [ne, ae]) fun u h1 tk hu ho hst hT hsz hk => ?_
    obtain ⟨u2, hu2, ru⟩ := rv.get hx
    obtain rfl : u = u2 := by
      have z : its[i]? = some u := by simpa using hu
      rw [hu2] at z
      exact (Option.some.inj z).symm
    refine ⟨_, rfl, wpAny_letOwnedTupleGo_enum (s := { s with heap := h1, toks := tk + 1 }) ho fun h2 he2 sb => ?_⟩
    have el : e < s.heap.objs.size := Heap.lt_size he
    have il : it < s.heap.objs.size := by
      obtain ⟨_, z, _⟩ := hit
      exact Heap.lt_size z
    have T2 : h2.get? s.heap.objs.size = some { cls := .type "tuple", data := .seq #[.int i tk, u] } := (sb.2 _ (Nat.ne_of_gt el)).trans hT
    have I1 : Inv X pins σ (upd H s.heap.objs.size (.tup [.int (i : Nat), x])) { s with heap := h2, toks := tk + 1 } :=
      I.turnedNew (ch := [e, it]) (fun b ob hb q => (sb.2 b fun z => hb (by simp [z])).trans (hk b ob (fun z => hb (by simp [z])) (fun z => hb (by simp [z])) q)) hf (Nat.le_refl _) ⟨by show 2 ≤ sizeLine; decide, [.int i tk, u], .cons ⟨_, rfl⟩ (.cons ru .nil), ⟨_, T2, rfl, _, rfl⟩⟩
    refine ⟨.ref s.heap.objs.size, _, I1, rfl, ⟨_, x, rfl, I.hok.fresh (Nat.le_refl _), rfl, fun ys hy => by rw [I.tuple_inj hy hq]; exact hx⟩, ⟨⟨u, ?_⟩, hst.1.at fun o q => (sb.2 it (Ne.symm ne)).trans q, ne⟩, fun b hb => ?_⟩
    · rw [show ((i + 1 : Nat) : Int) = (i : Int) + 1 by omega]
      exact he2
    · have lt : b < s.heap.objs.size := by rcases (by simpa using hb : b = e ∨ b = it) with z | z <;> (rw [z]; assumption)
      rw [upd_ne (Nat.ne_of_lt lt)]
      exact (hf b hb).1
  done := by
    intro X hP hw hK hc i pins s σ H E I hf st hg
    subst hP hw hK
    obtain ⟨⟨old, he⟩, hit, ne⟩ := st
    obtain ⟨xs, hq, hx⟩ := hg
    obtain ⟨its, rv, p, _⟩ := I.tuple hq
    obtain ⟨f0, f1, f2, f3, f4, f5⟩ := hf it (by simp)
    have hT : s.TypeIs (.ref e) "enumerate" := ⟨_, he, rfl⟩
    unfold pyNext
    refine wpAny_bind (wpAny_attempt (wpAny_callSpecial?_slot (name := Str.ofString "__next__") hT F.slot_enumerate_next (wpAny_call_entry F.slot_enumerate_next hT F.entry_enumerate_next ?_ (F.args_enumerate_next_1 _))))
    show wpAny _ _ (field (.ref e) 2 >>= _) _ _ _
    refine wpAny_bind (wpAny_field he rfl (x := .ref it) rfl ?_)
    refine wpAny_bind (PySem.wpAny_nextOf_tuple_end (show X.A.in1.handled = none from I.ok.hd hc) hit p (by simp; rw [← rv.length]; exact hx) fun h' ex eb hx' => ?_)
    obtain ⟨o, ho, hcl⟩ := hx'
    refine wpAny_bind (wpAny_isInstance (T := "StopIteration") (b := true) ⟨o, ho, hcl⟩ isSubtype_stop ?_)
    exact wpAny_pure ⟨rfl, I.turned (t' := s.toks) (fun b o hb q => eb b o hb q) f0 f1 f3 f4 f5⟩
  self := fun A i s Q E st h => by
    obtain ⟨⟨_, he⟩, _⟩ := st
    exact wpAny_pyIter_enum he h
def iEnumT (K : PySem.W.Frag) (ta : TA) : TI := fun σ H R => ta σ H fun vs H1 => ∃ a xs, vs = [.ref a] ∧ SqT K H1 a xs ∧ R (IteT K a) H1
theorem pi_enumT {X : Cx} {e : Expr} {ta : TA} {p pos tpos : Pos} {elts : List Expr} {kk : Nat} (hg : Gl X "enumerate") (hm : X.mg "enumerate" = none) (ha : PA X [e] ta) (hs : starEach [e] X.env = [(false, eval e X.env)]) : PI X (.Tuple elts kk tpos) (.Call (.Name "enumerate" p) [e] [] pos) (iEnumT X.K ta) := by
  refine ⟨fun pins s σ H R I h => ?_⟩
  refine Call_ (ld_blt I hg hm boot_enumerate (PyProof.Rows.callWith_type1 (thn (ha.run pos pins s σ H _ I h) fun us s1 hh => ?_) hs rfl))
  obtain ⟨vs, H1, I1, r1, a, xs, rfl, hq, q⟩ := hh
  cases r1 with
  | cons r rr =>
    cases rr
    cases r
    obtain ⟨its, rv, p', _⟩ := I1.tuple hq
    refine call_enum1 (PySem.begins_tuple a its.toArray) p' fun h' he hit hk => wpAny_pyIter_enum he ?_
    have I2 : Inv X pins σ H1 { s1 with heap := h' } := I1.kept (t' := s1.toks) hk
    refine ⟨s1.heap.objs.size + 1, [s1.heap.objs.size + 1, s1.heap.objs.size], _, _, H1, rfl, I2, turn_enumT a (s1.heap.objs.size + 1) s1.heap.objs.size, ⟨⟨.none, he⟩, ⟨_, hit, rfl, rfl⟩, Nat.succ_ne_self _⟩, fun b hb => ?_, q⟩
    have le : s1.heap.objs.size ≤ b := by rcases (by simpa using hb : b = s1.heap.objs.size + 1 ∨ b = s1.heap.objs.size) with rfl | rfl <;> omega
    exact I1.fpOk le (I1.hok.fresh le)
section
variable {c : Cxt} {a b e : Expr} {es : List Expr} {fa fb : F3 D} {fr : F3 (List D)} {pos p p2 q : Pos}
def srcET (ds : List D) : Src := fun _ i => some (match ds[i]? with
  | some x => some (.tup [.int (i : Nat), x])
  | none => none)
def fOverET (f : F3 (List D)) : F3 Src := bnd f fun ds env st => match ds with
  | [d] => match seqT d with
    | some xs => some (.ok (srcET xs), st)
    | none => none
  | _ => none
theorem simI_enumT {elts : List Expr} {kk : Nat} {tpos : Pos} (hg : glB c.sc "enumerate" = true) (hm : c.g.mg "enumerate" = none) (ha : SimA c [a] fr) (hp : plainE a = true := by rfl) : SimI c (.Tuple elts kk tpos) (.Call (.Name "enumerate" p) [a] [] pos) (fOverET fr) := by
  obtain ⟨t, q, r⟩ := ha
  refine ⟨iEnumT c.g.K t, fun X o => by rw [← o.K]; exact pi_enumT (o.gl hg) (by rw [o.mg]; exact hm) (q X o) (starEach_plain hp), ?_⟩
  intro env st rr st' e ms σ H rs re R hq
  refine r.bind e rs re (fun ds st1 ms1 H1 fw rs1 re1 e1 vs hv => ?_) fun c ms1 H1 er fw rs1 => out_er hq er fw rs1
  split at e1
  · split at e1
    · rename_i d xs ed
      cases e1
      obtain ⟨v, e0, hv1⟩ := hv.one'
      subst e0
      obtain ⟨q, vs, rfl, hp, hvs⟩ := seqT_ok hv1 ed
      refine ⟨q, vs, rfl, hp, hq ms1 H1 fw rs1 _ fun ms2 H2 st2 i fw2 rs2 => ?_⟩
      have hp2 := fw2.le.sqT hp
      unfold srcET
      cases hk : xs[i]? with
      | none => exact ⟨fun z => ⟨vs, hp2, by rw [← hvs.length]; exact List.getElem?_eq_none_iff.mp hk⟩, fun _ z => (by cases z)⟩
      | some x =>
        obtain ⟨w, h1, h2⟩ := hvs.get hk
        refine ⟨fun z => (by cases z), fun d' z => ⟨⟨vs, w, hp2, h1⟩, fun x' H' y => ?_⟩⟩
        obtain ⟨T, x2, rfl, hT, rfl, y2⟩ := y
        have y3 := y2 vs hp2
        rw [h1] at y3
        cases y3
        cases z
        obtain ⟨fw3, rs3⟩ := rs2.fresh (o := .tup [.int (i : Nat), w]) hT
        exact ⟨fw3, rs3, .tup upd_same (.cons (.int _) (.one ((fw2.trans fw3).rl h2)))⟩
    · cases e1
  · cases e1

/-! ### list(range(n)) -/
def oRgL : F1 D D := fun d st => match d with
  | .int j => if 0 ≤ j ∧ j ≤ 16777216 then some (.loc st.length, st ++ [.lst ((List.range j.toNat).map fun i => .int (i : Nat))]) else none
  | _ => none
theorem simE_listRg (hg : glB c.sc "list" = true) (hm : c.g.mg "list" = none) (hg2 : glB c.sc "range" = true) (hm2 : c.g.mg "range" = none) (ha : SimE c a fa) (hp : plainE a = true := by rfl) : SimE c (.Call (.Name "list" p) [.Call (.Name "range" p2) [a] [] q] [] pos) (fU oRgL fa) := by
  obtain ⟨t, pt, r⟩ := ha
  refine ⟨_, fun X o => pe_listRg o.calm (o.gl hg) (by rw [o.mg]; exact hm) (prg_1 (o.gl hg2) (by rw [o.mg]; exact hm2) (pt X o) (starEach_plain hp)) (starEach_plain rfl), ?_⟩
  intro env st rr st' e ms σ H rs re Q hq
  refine r.bind e rs re (fun d st1 ms1 H1 fw rs1 re1 e1 v hv => ?_) fun c ms1 H1 er fw rs1 => out_er hq er fw rs1
  unfold lift oRgL at e1
  split at e1
  · rename_i z st2 hz
    cases e1
    split at hz
    · split at hz
      · rename_i j hj
        cases hz
        cases hv
        refine ⟨_, rfl, .of_le (Int.le_refl 0) hj.2 (by omega) hj.1, fun u hu => ?_⟩
        have el : (rgV 0 j) = ((List.range j.toNat).map fun i => ((i : Nat) : Int)).map V.int := by
          unfold rgV
          simp
        rw [el]
        obtain ⟨fw2, rs2, h2⟩ := rs1.alloc (o := .lst (((List.range j.toNat).map fun i => ((i : Nat) : Int)).map V.int)) (u := .lst ((List.range j.toNat).map fun i => D.int (i : Nat))) hu fun f e => ⟨_, e, by
          have := rlA_ints (g := c.g) (ms := ‹List Addr›) (H := ‹Hp›) ((List.range j.toNat).map fun i => ((i : Nat) : Int))
          simpa [Function.comp_def] using this⟩
        exact hq _ _ (fw.trans fw2) rs2 _ h2
      · cases hz
    · cases hz
  · cases e1

/-! ### len(set(a tuple of ints)) -/
def nubI : List Int → List Int
  | [] => []
  | i :: l => if i ∈ nubI l then nubI l else i :: nubI l
theorem nubI_mem {k : Int} : ∀ {l : List Int}, k ∈ nubI l ↔ k ∈ l
  | [] => Iff.rfl
  | i :: l => by
    unfold nubI
    have ih := nubI_mem (k := k) (l := l)
    split
    · rename_i h
      rw [ih, List.mem_cons]
      exact ⟨.inr, fun z => z.elim (fun e => e ▸ nubI_mem.mp h) id⟩
    · rw [List.mem_cons, List.mem_cons, ih]
theorem nubI_nodup : ∀ l : List Int, (nubI l).Nodup
  | [] => .nil
  | i :: l => by
    unfold nubI
    split
    · exact nubI_nodup l
    · rename_i h
      exact List.nodup_cons.mpr ⟨h, nubI_nodup l⟩
theorem len_le_of {α : Type} [DecidableEq α] : ∀ {l m : List α}, l.Nodup → (∀ x ∈ l, x ∈ m) → l.length ≤ m.length
  | [], _, _, _ => Nat.zero_le _
  | x :: l, m, nd, h => by
    obtain ⟨n1, n2⟩ := List.nodup_cons.mp nd
    have hm := h x List.mem_cons_self
    have e := List.length_erase_of_mem hm
    have pos : 0 < m.length := List.length_pos_of_mem hm
    have q := len_le_of (l := l) (m := m.erase x) n2 fun y hy => (List.mem_erase_of_ne fun z => n1 (by rw [← z]; exact hy)).mpr (h y (List.mem_cons_of_mem _ hy))
    rw [List.length_cons]
    omega
def oLenSet : F1 D D := fun d st => match seqT d with
  | some ds => match intsOf ds with
    | some ns => if ns.length ≤ 4000 then some (.int (nubI ns).length, st) else none
    | none => none
  | none => none
def tLenSetT (K : PySem.W.Frag) (ta : TE) : TE := fun σ H Q => ta σ H fun x H1 => ∃ (l : Addr) (ns : List Int), x = .ref l ∧ SqT K H1 l (ns.map V.int) ∧ ns.length ≤ 4000 ∧ Q (.int ((nubI ns).length : Nat)) H1
theorem pe_lenSetT {X : Cx} {a : Expr} {ta : TE} {p p2 q pos : Pos} (hg : Gl X "len") (hm : X.mg "len" = none) (hg2 : Gl X "set") (hm2 : X.mg "set" = none) (ha : PE X a ta) (hc : X.calm = true) (na : starEach [a] X.env = (false, eval a X.env) :: starEach [] X.env) :
    PE X (.Call (.Name "len" p) [.Call (.Name "set" p2) [a] [] q] [] pos) (tLenSetT X.K ta) := by
  refine ⟨fun pins s σ H Q I h => Call_ (ld_blt I hg hm boot_len (PyProof.Rows.callWith_builtin1 (PyProof.Rows.args_cons (Call_ (ld_blt I hg2 hm2 boot_set (PyProof.Rows.callWith_type1 (PyProof.Rows.args_cons (thn (ha.run pins s σ H _ I h) fun v s1 hv => PyProof.Rows.args_nil ?_) na) na rfl))) rfl) rfl rfl))⟩
  obtain ⟨x, H1, I1, r1, l, ns, rfl, hq, hl, q1⟩ := hv
  cases r1
  obtain ⟨its, rv, pt, _⟩ := I1.tuple hq
  refine call_set_tupI ns (I1.ok.hd hc) (show s1.heap.IsTuple l its.toArray from pt) (ints_of_vals rv) (by unfold scanBound; omega) fun h' tk c SR hcn k => PyProof.Rows.args_nil ?_
  obtain ⟨o, es, ep, t, ho, hex, hdt, _, nd, mem, hb, hf, hn, _, _⟩ := SR
  have ln : es.size = (nubI ns).length := by
    have e1 : (es.toList.map keyOf).length = es.size := by simp
    have m1 : ∀ j, j ∈ es.toList.map keyOf ↔ j ∈ nubI ns := fun j => by rw [← mem j, nubI_mem, decide_eq_true_eq]
    have h1 := len_le_of nd fun j hj => (m1 j).mp hj
    have h2 := len_le_of (nubI_nodup ns) fun j hj => (m1 j).mpr hj
    omega
  have I2 : Inv X pins σ H1 { s1 with heap := h', toks := tk } := I1.kept k
  have hle : (nubI ns).length ≤ ns.length := len_le_of (nubI_nodup ns) fun j hj => nubI_mem.mp hj
  exact call_len_set ho hex hdt hf (by rw [ln]; omega) ⟨.int (nubI ns).length, H1, I2.tok _, ⟨_, by rw [ln]⟩, q1⟩
theorem simE_lenSet (hg : glB c.sc "len" = true) (hm : c.g.mg "len" = none) (hg2 : glB c.sc "set" = true) (hm2 : c.g.mg "set" = none) (ha : SimE c a fa) (hp : plainE a = true := by rfl) : SimE c (.Call (.Name "len" p) [.Call (.Name "set" p2) [a] [] q] [] pos) (fU oLenSet fa) := by
  obtain ⟨t, pt, r⟩ := ha
  refine ⟨tLenSetT c.g.K t, fun X o => by rw [← o.K]; exact pe_lenSetT (o.gl hg) (by rw [o.mg]; exact hm) (o.gl hg2) (by rw [o.mg]; exact hm2) (pt X o) o.calm (starEach_plain hp), ?_⟩
  intro env st rr st' e ms σ H rs re Q hq
  refine r.bind e rs re (fun d st1 ms1 H1 fw rs1 re1 e1 v hv => ?_) fun c ms1 H1 er fw rs1 => out_er hq er fw rs1
  unfold lift oLenSet at e1
  split at e1
  · rename_i z st2 hz
    cases e1
    split at hz
    · split at hz
      · split at hz
        · rename_i ds ed _ ns en hl
          cases hz
          obtain ⟨l, vs, rfl, hp, hvs⟩ := seqT_ok hv ed
          exact ⟨l, ns, rfl, by rw [← intsOf_ok en hvs]; exact hp, hl, hq ms1 H1 fw rs1 _ (.int _)⟩
        · cases hz
      · cases hz
    · cases hz
  · cases e1
end
end S3

set_option maxHeartbeats 4000000
/-! S3M: isinstance of a caught error, repr. -/
namespace S3
open PySem PySem.Spec PyProof.Rows L2
section
variable {c : Cxt} {a b e : Expr} {es : List Expr} {fa fb : F3 D} {fr : F3 (List D)} {pos p p2 q : Pos} {X : Cx}
/-! ### isinstance of a caught error -/
def rIsV (K : PySem.W.Frag) : List V → Hp → VK → Prop := fun xs H Q => ∃ (a C : Addr) (cv : V) (u : Value) (b : Bool), xs = [.ref a, cv] ∧ H a = some (ExV C a) ∧ ExcC K C ∧ (∀ w, RelV cv w → w = u) ∧ PySem.W.kitOne K (.ref C) u = some b ∧ Q (.bl b) H
theorem call_isV : CallR X (.builtin "isinstance") (rIsV X.K) := by
  intro pins s σ H xs us Q I r h
  obtain ⟨a, C, cv, u, b, rfl, ha, ec, hu, hk, q⟩ := h
  obtain ⟨u1, u2, rfl, r1, r2⟩ := vals2 r
  cases r1
  obtain rfl := hu _ r2
  obtain ⟨⟨oe, vs, hg, hz, hd⟩, _, _⟩ := I.hok a _ ha
  obtain ⟨oc, od, dt, sl⟩ := oe
  obtain ⟨z1, z2⟩ := hz
  dsimp only at z1 z2 hd
  subst z1 z2 hd
  exact PySem.W.kia_one (PySem.W.handS_kitx_exc ec.hg ec.hk ec.hs ec.hd ec.ha ec.hn ec.ht ec.hm) I.kIn ⟨hg, rfl, rfl, trivial⟩ hk (fun z => nomatch z) fun tk => ⟨.bl b, H, I.kept (t' := tk) fun _ _ z => z, rfl, q⟩
/-- tab: which class lies under which -/
def oIsV (tab : Nat → Nat → Bool) : F1 (List D) D := fun ds st => match ds with
  | [.exn i, .cl j] => some (.bl (tab i j), st)
  | _ => none
structure TabOk (g : Gs) (tab : Nat → Nat → Bool) : Prop where
  kit : ∀ i j, PySem.W.kitOne g.K (.ref (g.cl i)) (.ref (g.cl j)) = some (tab i j)
  exc : ∀ i, ExcC g.K (g.cl i)
theorem opS_isV {g : Gs} {tab : Nat → Nat → Bool} (T : TabOk g tab) : OpS g (RlA g) (Rl g) (rIsV g.K) (oIsV tab) := by
  intro ds st z st' e ms H vs rs hv Q h
  unfold oIsV at e
  split at e
  · rename_i i j
    cases e
    obtain ⟨v, w, e0, h1, h2⟩ := hv.two'
    subst e0
    cases h1 with
    | exn ha =>
      cases h2
      exact ⟨_, _, _, _, tab i j, rfl, ha, T.exc i, fun w hw => by cases hw; rfl, T.kit i j, q_here rs h (.bl _)⟩
  · cases e
theorem simE_isV {tab : Nat → Nat → Bool} (T : TabOk c.g tab) (hg : glB c.sc "isinstance" = true) (hm : c.g.mg "isinstance" = none) (ha : SimA c (e :: es) fr) (hp : plainA (e :: es) = true := by rfl) : SimE c (.Call (.Name "isinstance" p) (e :: es) [] pos) (fArgs (oIsV tab) fr) :=
  simE_callB (fun X o => by rw [← o.K]; exact call_isV) (opS_isV T) hg hm (by decide +kernel) ha hp
/-- a class's name, as a value -/
theorem simE_cls {x : Str} {i : Nat} (hg : glB c.sc x = true) (hm : c.g.mg x = some (.ref (c.g.cl i))) : SimE c (.Name x pos) (ret3 (.cl i)) := simE_glob (v := .ref (c.g.cl i)) hg hm rfl fun _ _ => .cl i

/-! ### repr of tuples and lists -/
def refD : D → Bool
  | .tup _ => true
  | .tcon _ => true
  | .lcon _ => true
  | .loc _ => true
  | _ => false
def oRepr : F1 (List D) D := fun ds st => match ds with
  | [x] => match dat64 st x with
    | some d => if refD x = true ∧ d.showable = true ∧ d.hasDict = false ∧ d.depth ≤ 60 ∧ d.shown.length ≤ sizeLine then some (.str d.shown, st) else none
    | none => none
  | _ => none
def rRepr (K : PySem.W.Frag) : List V → Hp → VK → Prop := fun xs H Q => ∃ (a : Addr) (d : PyData), xs = [.ref a] ∧ Dp K H (.ref a) d ∧ d.showable = true ∧ d.hasDict = false ∧ d.depth ≤ 60 ∧ d.shown.length ≤ sizeLine ∧ Q (.str d.shown) H
theorem call_repr (hg : X.A.guards = some []) (hu : X.A.units + 64 < cLine) : CallR X (.builtin "repr") (rRepr X.K) := by
  intro pins s σ H xs us Q I r h
  obtain ⟨a, d, rfl, hd, h1, h2, h3, h4, q⟩ := h
  obtain ⟨u, rfl, r1⟩ := vals1 r
  obtain ⟨as, rd⟩ := Dp.reads I d _ _ hd r1
  cases r1
  exact PySem.repr_of_reads' rd h1 (fun z => by rw [h2] at z; cases z) hg (by omega) (fun _ _ z => z) (fun h' u tk k => ⟨.str d.shown, H, I.kept (t' := tk) k, ⟨_, rfl⟩, q⟩) h4
theorem opS_repr {g : Gs} : OpS g (RlA g) (Rl g) (rRepr g.K) oRepr := by
  intro ds st z st' e ms H vs rs hv Q h
  unfold oRepr at e
  split at e
  · split at e
    · rename_i x d ed
      split at e
      · rename_i hc
        obtain ⟨h1, h2, h3, h4, h5⟩ := hc
        cases e
        obtain ⟨v, e0, hv1⟩ := hv.one'
        subst e0
        obtain ⟨dp, _⟩ := dat64_ok rs ed hv1
        have : ∃ a, v = .ref a := by
          cases hv1 <;> first | exact ⟨_, rfl⟩ | cases h1
        obtain ⟨a, rfl⟩ := this
        exact ⟨a, d, rfl, dp, h2, h3, h4, h5, q_here rs h (.str _)⟩
      · cases e
    · cases e
  · cases e
theorem simE_repr (hgd : c.gd = true) (hg : glB c.sc "repr" = true) (hm : c.g.mg "repr" = none) (ha : SimA c (e :: es) fr) (hp : plainA (e :: es) = true := by rfl) : SimE c (.Call (.Name "repr" p) (e :: es) [] pos) (fArgs oRepr fr) :=
  simE_callB (fun X o => by rw [← o.K]; exact call_repr (o.guards hgd) (by have := o.room.un; omega)) opS_repr hg hm (by decide +kernel) ha hp
end
end S3

set_option maxHeartbeats 4000000
/-! S3N: the end of a law row: the law called by the row's own caller. -/
namespace S3
open PySem PySem.Spec PyProof.Rows L2
/-- what the law finds tracked: the empty tables, the script if it is none of the written part -/
def lawH (K : PySem.W.Frag) (Ts : List Addr) (a : Addr) (vs : List Value) (ns : List Int) : Hp := fun b => if b ∈ Ts then some (.tbl #[]) else if K.lookup a = none ∧ b = a then some (.frz { cls := .type "list", data := .seq vs.toArray } (.lst (ns.map V.int))) else none
section
variable {K : PySem.W.Frag} {Ts : List Addr} {a b : Addr} {vs : List Value} {ns : List Int} {o : HO}
theorem lawH_tab (h : b ∈ Ts) : lawH K Ts a vs ns b = some (.tbl #[]) := if_pos h
theorem lawH_scr (h : a ∉ Ts) (hk : K.lookup a = none) : lawH K Ts a vs ns a = some (.frz { cls := .type "list", data := .seq vs.toArray } (.lst (ns.map V.int))) := by
  unfold lawH
  rw [if_neg h, if_pos ⟨hk, rfl⟩]
theorem lawH_cases (h : lawH K Ts a vs ns b = some o) : (b ∈ Ts ∧ o = .tbl #[]) ∨ (b ∉ Ts ∧ K.lookup a = none ∧ b = a ∧ o = .frz { cls := .type "list", data := .seq vs.toArray } (.lst (ns.map V.int))) := by
  unfold lawH at h
  split at h
  · rename_i hb
    cases h
    exact .inl ⟨hb, rfl⟩
  · rename_i hb
    split at h
    · rename_i hc
      cases h
      exact .inr ⟨hb, hc.1, hc.2, rfl⟩
    · cases h
end
/-- what is asked of a law's def, at the state of its call -/
def LawRun (P : Program) (w : World) (K : PySem.W.Frag) (mg : Str → Option Value) (fa : Addr) (cs : List (Addr × Addr)) (ns : List Int) : Prop :=
  ∀ (base : Heap) (s : Shared) (H : Hp) (a : Addr), K.In base → base.Ns mainGlobals mg → (∀ p ∈ cs, LamX.TabB base mg p.1 p.2) → Env0 P w K mg base callerA [] s H → (∀ p ∈ cs, H p.2 = some (.tbl #[])) →
    (∀ H' : Hp, (∀ b o u, H b = some (.frz o u) → H' b = some (.frz o u)) → SqL K H' a (ns.map V.int)) →
    codeAny (model P w) callerA (.call (.ref fa) ⟨[.ref a], []⟩) (CR (L2.CX P w) [] P w H s (fun v _ => v = .bl true) fun _ _ _ => False) s
theorem law_go {P : Program} {w : World} {K : PySem.W.Frag} {mg mb : Str → Option Value} {fa a : Addr} {cs : List (Addr × Addr)} {s : Shared} {vs : List Value} {ns : List Int} (KX : K.In s.heap) (g1 : s.heap.Ns mainGlobals mg) (g2 : s.heap.Ns builtinsNs mb) (g3 : ∀ x : Str, x ≠ "__name__" → mb x = bootBuiltins x)
    (g4 : s.heap.NoLimit) (g5 : s.gens = #[]) (t1 : ∀ p ∈ cs, s.heap.get? p.2 = some { cls := .none, data := .fields #[] }) (t2 : ∀ p ∈ cs, K.lookup p.2 = none) (t3 : ∀ p ∈ cs, PySem.W.CodeHd s.heap p.1 p.2)
    (bm : ∃ (m : Addr) (ob : Obj), mg "__builtins__" = some (.ref m) ∧ m ≠ builtinsNs ∧ s.heap.get? m = some ob ∧ ob.cls = .type "module" ∧ ob.dict = some builtinsNs ∧ ob.data = .plain)
    (scr : s.heap.get? a = some { cls := .type "list", data := .seq vs.toArray }) (hi : IntsAre vs ns) (hl : ns.length ≤ sizeLine) (F : LawRun P w K mg fa cs ns) :
    codeAny (model P w) callerA (.call (.ref fa) ⟨[.ref a], []⟩) (fun r s' => r = .ok (.ret (.bool true)) ∧ OldK s.heap s'.heap ∧ s'.os = s.os ∧ AllBare s'.gens) s := by
  obtain ⟨Ts, hTs⟩ : ∃ Ts : List Addr, Ts = cs.map (·.2) := ⟨_, rfl⟩
  have inT : ∀ p ∈ cs, p.2 ∈ Ts := fun p hp => by
    rw [hTs]
    exact List.mem_map_of_mem hp
  have ofT : ∀ b ∈ Ts, ∃ p ∈ cs, p.2 = b := fun b hb => by
    rw [hTs] at hb
    exact List.mem_map.mp hb
  have tabAt : ∀ b ∈ Ts, s.heap.get? b = some { cls := .none, data := .fields #[] } := fun b hb => by
    obtain ⟨p, hp, rfl⟩ := ofT b hb
    exact t1 p hp
  have aT : a ∉ Ts := fun z => by
    have q := tabAt a z
    rw [scr] at q
    simp at q
  obtain ⟨H, hH⟩ : ∃ H : Hp, H = lawH K Ts a vs ns := ⟨_, rfl⟩
  have hCases : ∀ {b : Addr} {o : HO}, H b = some o → (b ∈ Ts ∧ o = .tbl #[]) ∨ (b ∉ Ts ∧ K.lookup a = none ∧ b = a ∧ o = .frz { cls := .type "list", data := .seq vs.toArray } (.lst (ns.map V.int))) := fun {b o} e => by
    rw [hH] at e
    exact lawH_cases e
  -- what is no list and no table is not tracked
  have free_ : ∀ {b : Addr} {o : Obj}, s.heap.get? b = some o → (∀ x n, o.data ≠ .seq x n) → o.data ≠ .fields #[] → H b = none := fun {b o} e h1 h2 => by
    cases q : H b with
    | none => rfl
    | some u =>
      rcases hCases q with ⟨hb, _⟩ | ⟨_, _, rfl, _⟩
      · rw [tabAt b hb] at e
        cases e
        exact (h2 rfl).elim
      · rw [scr] at e
        cases e
        exact (h1 _ _ rfl).elim
  have under : ∀ {b : Addr} {o : Obj}, s.heap.get? b = some o → (∀ x n, o.data ≠ .seq x n) → o.data ≠ .fields #[] → (hidT s.heap H).get? b = some o := fun e h1 h2 => hidT_get e (free_ e h1 h2)
  have ns_ : ∀ {b : Addr} {m : Str → Option Value}, s.heap.Ns b m → (hidT s.heap H).Ns b m := fun {b m} ⟨o, es, ep, e, d, r⟩ => ⟨o, es, ep, under e (fun x n z => by rw [d] at z; cases z) (fun z => by rw [d] at z; cases z), d, r⟩
  have Kb : K.In (hidT s.heap H) := fun b o e => hidT_get (KX b o e) (by
    cases q : H b with
    | none => rfl
    | some u =>
      rcases hCases q with ⟨hb, _⟩ | ⟨_, hk, rfl, _⟩
      · obtain ⟨p, hp, rfl⟩ := ofT b hb
        rw [t2 p hp] at e
        cases e
      · rw [hk] at e
        cases e)
  have M : L2.Mod K mg (hidT s.heap H) := ⟨Kb, ns_ g1, ⟨mb, ns_ g2, g3⟩, g4.imp fun _ h => ⟨ns_ h.1, h.2⟩⟩
  have TB : ∀ p ∈ cs, LamX.TabB (hidT s.heap H) mg p.1 p.2 := fun p hp => by
    refine ⟨?_, ?_, fun z => ?_⟩
    · obtain ⟨o, us, file, tf, flags, tg, inF, text, tt, e1, r1, r2, r3, rest⟩ := t3 p hp
      exact ⟨o, us, file, tf, flags, tg, inF, text, tt, under e1 (fun x n z => by rw [r2] at z; cases z) (fun z => by rw [r2] at z; cases z; simp at r3), r1, r2, r3, rest⟩
    · obtain ⟨m, ob, b1, b2, b3, b4, b5, b6⟩ := bm
      refine ⟨m, ob, b1, b2, fun q => ?_, fun q => ?_, under b3 (fun x n z => by rw [b6] at z; cases z) (fun z => by rw [b6] at z; cases z), b4, b5, b6⟩
      · obtain ⟨o, es, ep, e, d, _⟩ := g1
        rw [q, e] at b3
        cases b3
        rw [d] at b6
        cases b6
      · rw [q, t1 p hp] at b3
        cases b3
        cases b6
    · obtain ⟨o, es, ep, e, d, _⟩ := g1
      rw [z, t1 p hp] at e
      cases e
      cases d
  have hok : HOk P w H s.heap := fun b u e => by
    rcases hCases e with ⟨hb, rfl⟩ | ⟨_, _, rfl, rfl⟩
    · exact tabAt b hb
    · exact ⟨scr, by rw [List.length_map]; exact hl, vs, _, vals_ints hi, scr⟩
  have E : Env0 P w K mg (hidT s.heap H) callerA [] s H := ⟨rfl, M, fun b o e => of_hidT e, Nat.le_of_eq (hidT_size _ _), trivial, fun b hb => absurd (show b ∈ ([] : List Addr) from hb) (by simp), hok, .of_eq g5⟩
  have hTab : ∀ p ∈ cs, H p.2 = some (.tbl #[]) := fun p hp => by
    rw [hH]
    exact lawH_tab (inT p hp)
  have sq : ∀ H' : Hp, (∀ b o u, H b = some (.frz o u) → H' b = some (.frz o u)) → SqL K H' a (ns.map V.int) := fun H' k => by
    cases hk : K.lookup a with
    | some o =>
      have e := KX a o hk
      rw [scr] at e
      cases e
      exact .inr ⟨_, vs.toArray, _, hk, rfl, rfl, rfl, by rw [List.size_toArray, hi.length]; exact hl, by simpa using vals_ints hi⟩
    | none => exact .inl (.inr ⟨_, k a _ _ (by rw [hH]; exact lawH_scr aT hk)⟩)
  refine codeAny_mono (F _ s H a Kb (ns_ g1) TB E hTab sq) fun r s' h => ?_
  cases r with
  | error e =>
    obtain ⟨_, _, _, _, _, _, _, _, _, _, _, _, z⟩ := h
    exact z.elim
  | ok fl =>
    cases fl with
    | next => exact False.elim h
    | brk => exact False.elim h
    | cont => exact False.elim h
    | ret u =>
      obtain ⟨v, H', os, bare, un, hok', rv, q⟩ := h
      have q : v = .bl true := q
      subst q
      obtain rfl : u = Value.bool true := rv
      have keep : ∀ b o, b ∉ Ts → s.heap.get? b = some o → s'.heap.get? b = some o := fun b o nb e => by
        cases q : H b with
        | none => exact un.keep b o e q (fun z => absurd (show b ∈ ([] : List Addr) from z) (by simp)) (by simp)
        | some u =>
          rcases hCases q with ⟨z, _⟩ | ⟨_, _, rfl, rfl⟩
          · exact absurd z nb
          · obtain ⟨e1, _⟩ := hok _ _ q
            obtain ⟨e2, _⟩ := hok' _ _ (un.frzs _ _ _ q)
            rw [e] at e1
            cases e1
            exact e2
      have more : ∀ p ∈ cs, ∃ m : Array Value, s'.heap.get? p.2 = some { cls := .none, data := .fields m } := fun p hp => by
        obtain ⟨m, z⟩ := un.tbls p.2 #[] (hTab p hp)
        exact ⟨_, hok' p.2 _ z⟩
      refine ⟨rfl, ⟨fun b o e => ?_, fun b o e => ?_⟩, os, bare⟩
      · by_cases hb : b ∈ Ts
        · obtain ⟨p, hp, rfl⟩ := ofT b hb
          obtain ⟨m, hm⟩ := more p hp
          rw [t1 p hp] at e
          cases e
          exact .inr (.inl ⟨((t3 p hp).tab (t1 p hp)).isCodeTable, rfl, #[], m, rfl, by rw [Array.empty_append]; exact hm⟩)
        · exact .inl (keep b o hb e)
      · by_cases hb : b ∈ Ts
        · obtain ⟨p, hp, rfl⟩ := ofT b hb
          exact ⟨_, (more p hp).choose_spec⟩
        · exact ⟨o, keep b o hb e⟩
/-- what is known at the head's heap -/
def LawAt (l : PySem.W.OpenLaw) (w : World) (K : PySem.W.Frag) (n : Nat) (mg : Str → Option Value) (fa : Addr) (h : Heap) : Prop :=
  ∃ cs : List (Addr × Addr), (∀ p ∈ cs, h.get? p.2 = some { cls := .none, data := .fields #[] }) ∧ (∀ p ∈ cs, K.lookup p.2 = none) ∧ (∀ p ∈ cs, PySem.W.CodeHd h p.1 p.2) ∧
    ∀ ns : List Int, ns.length ≤ n → (∀ z ∈ ns, Builtin.Int.intBits z ≤ 1048576) → LawRun l.prog w K mg fa cs ns
theorem walk_go {l : PySem.W.OpenLaw} {n : Nat} {q : Program} {loose : List Str} {XP : (Str → Option Value) → Heap → Prop} {YP : World → Heap → Prop} {d : DefRec} (hn : l.most = some n) (hn2 : n ≤ sizeLine) (hdf : d.params.defaults = [])
    (F : ∀ (w : World) (mg : Str → Option Value) (fa : Addr) (h : Heap), YP w h → h.Ns mainGlobals mg → mg d.name = some (.ref fa) → ∃ K : PySem.W.Frag, K.In h ∧ LawAt l w K n mg fa h) : PySem.W.WalkO q loose XP YP l.row.toRowW d [] (fun f vs => PySem.call f vs) := by
  refine Att.attach_callB hn hdf fun w s0 s1 mg mb fa o pm cd doc a vs ns G Y ho hd hcd hmg hobj hints hlen hbits hg => ?_
  obtain ⟨K, KX, cs, t1, t2, t3, run⟩ := F w mg fa _ Y G.T.g hmg
  exact law_go KX G.T.g G.T.b G.T.builtins G.T.nolimit hg t1 t2 t3 G.T.bmain hobj hints (Nat.le_trans hlen hn2) (run ns hlen hbits)

/-- a law's def by its body -/
theorem law_run {g : Gs} [nl : NoLam g] {x : Str} {st : Stmt} {N : List Str} {f : Addr} {fdat : FuncData} {fs : FS} {k : Nat} {u : Addr} {cs : List (Addr × Addr)} {ns : List Int} {p : Str} (F : L2.Fun g.K x x st f fdat) (hcode : ∀ oc od dt osl, g.K.lookup f = some ⟨oc, od, .func dt, osl⟩ → dt.code = .ref u)
    (S : FnScope N [p] (defScope st)) (hr : Room (k + 1) callerA) (hbind : BindsBy x st 1 [p]) (hT : ∀ q ∈ g.T, ∃ c, (c, q.1) ∈ cs)
    (hs : ∀ E base, (∀ q ∈ cs, LamX.TabB base g.mg q.1 q.2) → SimSs { defC { g with base := base } N st k E with gd := true, lam := some (u, x ++ ".<locals>.") } (defBody st) fs)
    (hgood : ∃ st', fdOf N.length fs [.lcon (ns.map D.int)] [] = some (.ok (.bl true), st')) : LawRun g.P g.w g.K g.mg f cs ns := by
  intro base s H a Kb Nb TB E0' hTab hsq
  obtain ⟨⟨oc, od, kV, doc, pm, an, cdv, ct, osl, rfl, lk, hcd⟩, kp⟩ := F
  obtain ⟨st', hst⟩ := hgood
  have ec : cdv = .ref u := hcode _ _ _ _ lk
  refine LamX.run_ofS (N := N) (ps := [p]) (us := [.ref a]) (vs := [.ref a]) lk hcd S hr E0' (.of_eq (hbind _ _ _ _ _ _ [.ref a] rfl)) (.cons rfl .nil) rfl fun hr' => ?_
  obtain ⟨t, pt, rt⟩ := hs (fun _ _ _ => False) base TB
  have : NoLam { g with base := base } := ⟨nl.nl⟩
  refine ⟨t, pt _ ⟨rfl, rfl, rfl, rfl, rfl, rfl, rfl, rfl, hr', fun _ => rfl, fun u' q' z => ?_, S.nd, fun _ _ => rfl, passes_of rfl, takes_of rfl rfl rfl rfl, trivial⟩, ?_⟩
  · cases z
    exact ⟨ec, rfl⟩
  · refine spOf_body (g := { g with base := base }) (n := 1) (Q := fun v _ => v = .bl true) rt ⟨[.lcon (ns.map D.int)], [], [], _, st', rfl, ⟨rfl, .nil, fun n o b e => by simp at e, fun q hq => ?_⟩, .cons (.lcon hsq (rlA_ints ns)) .nil, hst, fun ms' H' fw rs b hb => ?_⟩
    · obtain ⟨c, hc⟩ := hT q hq
      exact LamX.TabS.nil (hTab _ hc)
    · cases hb
      rfl
end S3

set_option maxHeartbeats 2000000
/-! S3O: a def's name as a value; a call through a local name that holds a def. -/
namespace S3
open PySem PySem.Spec PyProof.Rows L2

section
variable {c : Cxt} {a b e : Expr} {es : List Expr} {fa fb : F3 D} {fr : F3 (List D)} {pos p p2 : Pos} {x : Str} {k : Nat} {st : Stmt} {ps : List Str} {fd : FD}
theorem simE_fn {i : Nat} (hg : glB c.sc x = true) (hm : c.g.mg x = some (.ref (c.g.fa i))) : SimE c (.Name x pos) (ret3 (.fn i)) := simE_glob (v := .ref (c.g.fa i)) hg hm rfl fun _ _ => .fn i
/-- the defs that a slot may hold: how many parameters, what each computes -/
abbrev FTab := Nat → Option (Nat × FD)
structure FnV (g : Gs) (k i n : Nat) (fd : FD) : Prop where
  ex : ∃ (x : Str) (st : Stmt) (ps : List Str) (fdat : FuncData), n = ps.length ∧ L2.Fun g.K x x st (g.fa i) fdat ∧ BindsBy x st n ps ∧ FnOk g.P g.w g.K g.mg g.base (L2.CX g.P g.w) k (g.fa i) fdat ps (spOf g ps.length fd)
def FTabOk (g : Gs) (k : Nat) (S : FTab) : Prop := ∀ i n fd, S i = some (n, fd) → FnV g k i n fd
theorem fnV_of {g : Gs} {i : Nat} (F : DefOk g k x st ps fd) (hm : g.mg x = some (.ref (g.fa i))) (hb : BindsBy x st ps.length ps) : FnV g k i ps.length fd := by
  obtain ⟨f, fdat, Fu, hm2, Fn⟩ := F.ex
  rw [hm] at hm2
  cases hm2
  exact ⟨x, st, ps, fdat, rfl, Fu, hb, Fn⟩
def fCallV (i : Nat) (S : FTab) (fr : F3 (List D)) : F3 D := fun env st => match env[i]? with
  | some (some (.fn j)) => (match S j with
    | some (n, fd) => fCall n fd fr env st
    | none => none)
  | _ => none
def tCallV (g : Gs) (i : Nat) (S : FTab) (E : XK) (t : TA) : TE := fun σ H Q => ∃ j n fd, S j = some (n, fd) ∧ tCallL i (g.fa j) (spOf g n fd) [] E t σ H Q
theorem simE_callV {S : FTab} (F : FTabOk c.g k S) (hk : k ≤ c.k) (i : Nat) (hN : c.N[i]? = some x) (hv : visB c.sc x = true) (ha : SimA c (e :: es) fr) (hp : plainA (e :: es) = true := by rfl)
    (hd : (x == ("__debug__" : Str)) = false := by decide +kernel) (hcd : (x == ("__classdict__" : Str)) = false := by decide +kernel) : SimE c (.Call (.Name x p) (e :: es) [] pos) (fCallV i S fr) := by
  obtain ⟨t, q, r⟩ := ha
  obtain ⟨h1, h2⟩ := plain_head hp
  refine ⟨tCallV c.g i S c.E t, fun X o => ⟨fun pins s σ H Q I h => ?_⟩, ?_⟩
  · obtain ⟨j, n, fd, hS, ht⟩ := h
    obtain ⟨y, st, ps, fdat, hn, Fu, hb, Fn⟩ := (F j n fd hS).ex
    subst hn
    exact (pe_callL (i := i) (f := c.g.fa j) (sp := spOf c.g ps.length fd) (dvs := []) (E := c.E) (o.fn_ok Fn) (o.room.mono hk) (by rw [o.N]; exact hN) (by rw [o.sc]; exact visB_ok hv) (by rw [o.K]; exact Fu.kp) (by rw [o.K]; exact Fu.binds hb) .nil o.pass (q X o) hd hcd (starEach_plain h1) (star_any h2)).run pins s σ H Q I ht
  · intro env st rr st' e0 ms σ H rs re Q hq
    unfold fCallV at e0
    split at e0
    · rename_i j hj
      split at e0
      · rename_i n fd hS
        obtain ⟨v, hv1, hv2⟩ := re.at_ i _ hj
        cases hv2
        exact ⟨j, n, fd, hS, hv1, (Rd.call r) env st rr st' e0 ms σ H rs re Q hq⟩
      · cases e0
    · cases e0
end
end S3

set_option maxHeartbeats 4000000
/-! S3P: a lambda with parameters handed to a def as its last argument, called there by the parameter's name. -/
namespace S3
open PySem PySem.Spec PyProof.Rows L2 LamX NdefX

theorem fnE_at {P : Program} {w : World} {H : Hp} {h : Heap} {f : Addr} {F : NF} {e : Expr} (hok : HOk P w H h) (q : H f = some (FnOE f F e)) : ∃ (od : Option Addr) (sl : Array (Option Value)) (pm ctv : Value), h.get? f = some (⟨.type "function", od, .func (PySem.W.kla_fn F.name F.qual F.params e F.scope F.cl pm (.ref F.c) ctv), sl⟩ : Obj) := by
  obtain ⟨z, _, _⟩ := hok f _ q
  exact z
theorem fnAtE {X : Cx} {pins : List (Addr × Obj)} {σ : L2.St} {H : Hp} {s : Shared} {f : Addr} {F : NF} {e : Expr} (I : Inv X pins σ H s) (q : H f = some (FnOE f F e)) : PySem.W.FnAt f s.heap := by
  obtain ⟨od, sl, pm, ctv, ho⟩ := fnE_at I.hok q
  exact ⟨_, od, _, sl, ho⟩
/-! ### the promise of the lambda -/
structure NOkE (P : Program) (w : World) (K : PySem.W.Frag) (mg : Str → Option Value) (base : Heap) (CX : CXT) (k : Nat) (f : Addr) (F : NF) (e : Expr) (ps fr : List Str) (sp : List (Option V) → Sp) : Prop where
  run : ∀ (A : Around) (outer : List Env) (s : Shared) (H : Hp) (us : List Value) (vs : List V) (ws : List (Option V)) (Q : VK) (E : XK), Room k A → Env0 P w K mg base A outer s H → H f = some (FnOE f F e) → H F.c = some (CodeO F.c F.qual) →
    CellsAt F.cl fr ws s.heap H → Vals vs us → sp ws vs H Q E → codeAny (model P w) A (.call (.ref f) ⟨us, []⟩) (CR CX outer P w H s Q E) s
theorem nokE_of {CX : CXT} {P : Program} {w : World} {K : PySem.W.Frag} {mg : Str → Option Value} {base : Heap} {N ps fr : List Str} {F : NF} {ex : Expr} {f : Addr} {k : Nat} {sp : List (Option V) → Sp} (S : NScope N ps fr F.scope)
    (hb : ∀ (pm ctv : Value) (us : List Value), us.length = ps.length → bindArgs (PySem.W.kla_fn F.name F.qual F.params ex F.scope F.cl pm (.ref F.c) ctv) ⟨us, []⟩ = pure (ps.zip us)) (len : ∀ ws vs H Q E, sp ws vs H Q E → vs.length = ps.length)
    (hbody : ∀ (A : Around) (outer : List Env) (s : Shared) (H : Hp) (vs : List V) (ws : List (Option V)) (Q : VK) (E : XK), Room k (A.deeper (envF F f s.heap.objs.size)) → ws.length = fr.length → sp ws vs H Q E →
      ∃ t, PE (ncx CX P w K mg base N F f A outer s H E) ex t ∧ t (startF N vs ws) H Q) :
    NOkE P w K mg base CX (k + 1) f F ex ps fr sp := by
  refine ⟨fun A outer s H us vs ws Q E hr e0 hf hc C r hsp => ?_⟩
  have hl := len _ _ _ _ _ hsp
  have lim : s.heap.NoLimit := e0.mod.nolimit.keeps fun b o e => (e0.bs b o e).1
  obtain ⟨od, sl, pm, ctv, ho⟩ := fnE_at e0.hok hf
  refine PySem.W.kla_callFunE hr.depth ho rfl S.co S.gen rfl (codeO_at e0.hok hc) ?_
  rw [hb pm ctv us (by rw [← r.length]; exact hl)]
  refine wpAny_pure (wpAny_newFunctionEnv S.nocell (fun ⟨n, _⟩ hy => S.par n (List.of_mem_zip hy).1) (fun h₁ hns hsb => ⟨lim.fresh _ hsb, ?_⟩) S.kind)
  show codeAny _ _ (.expr ex (envF F f s.heap.objs.size)) _ _
  have kp : ∀ b o, s.heap.get? b = some o → h₁.get? b = some o := fun b o e => hsb.extBut b o (Nat.ne_of_lt (Heap.lt_size e)) (Heap.get?_push_of_some _ e)
  obtain ⟨t, ht, hq⟩ := hbody A outer s H vs ws Q E (hr.deeper _) C.len hsp
  have I : Inv (ncx CX P w K mg base N F f A outer s H E) [] (startF N vs ws) H { s with heap := h₁, toks := s.toks + (ps.zip us).length } := inv_startN S hr.hd e0 hl r C hns kp
  refine PySem.W.kla_codeExpr (wpAny_mono (ht.run [] _ (startF N vs ws) H Q I hq) (fun v s' hs => ?_) fun e s' hs => hs)
  obtain ⟨v', H', J, rv, q⟩ := hs
  exact ⟨v', H', J.os, J.bare, J.base, J.hok, rv, q⟩
/-- what the lambda computes, of its arguments and what it captured -/
def fdLam (N : List Str) (f : F3 D) : FD := fun xs st => match f (xs.map some ++ List.replicate (N.length - xs.length) none) st with
  | some (r, st') => some (r, st')
  | none => none
def spC (g : Gs) (fdl : FD) (n m : Nat) : List (Option V) → Sp := fun ws vs H Q E => ∃ ds cs us ms st r st', ds.length = n ∧ cs.length = m ∧ ws = us.map some ∧ Rs g ms H st ∧ RlA g ms H ds vs ∧ RlA g ms H cs us ∧ fdl (ds ++ cs) st = some (r, st') ∧ ∀ ms' H', Fw ms H ms' H' → Rs g ms' H' st' → Out g E (Rl g) r Q ms' H'
abbrev lamCt (g : Gs) (N : List Str) (sc : Scope) (k : Nat) (E : XK) : Cxt := { g := g, N := N, sc := sc, k := k, E := E, own := fun _ => false }
theorem re_startF {g : Gs} [nl : NoLam g] {ms : List Addr} {H : Hp} {N : List Str} {ds cs : List D} {vs us : List V} (h1 : RlA g ms H ds vs) (h2 : RlA g ms H cs us) (hN : ds.length + cs.length ≤ N.length) : Re g ms H ((ds ++ cs).map some ++ List.replicate (N.length - (ds ++ cs).length) none) (startF N vs (us.map some)) := by
  have l1 := h1.length
  have l2 := h2.length
  have ha := h1.append h2
  have es : startF N vs (us.map some) = (vs ++ us).map some ++ List.replicate (N.length - vs.length - us.length) none := by
    unfold startF
    simp
  rw [es]
  refine ⟨by simp [l1, l2]; omega, fun i d e => ?_, fun l e => by rw [nl.nl] at e; cases e⟩
  by_cases hi : i < (ds ++ cs).length
  · rw [List.getElem?_append_left (by simpa using hi), List.getElem?_map] at e
    cases hd : (ds ++ cs)[i]? with
    | none =>
      rw [hd] at e
      cases e
    | some d' =>
      rw [hd] at e
      cases e
      obtain ⟨v, k1, k2⟩ := ha.get hd
      refine ⟨v, ?_, k2⟩
      rw [List.getElem?_append_left (by rw [List.length_map, ← ha.length]; exact hi), List.getElem?_map, k1]
      rfl
  · rw [List.getElem?_append_right (by simpa using hi)] at e
    have := List.mem_of_getElem? e
    simp at this
theorem nokE_sim {g : Gs} [NoLam g] {N ps fr : List Str} {F : NF} {ex : Expr} {a : Addr} {k : Nat} {fe : F3 D} (S : NScope N ps fr F.scope)
    (hb : ∀ (pm ctv : Value) (us : List Value), us.length = ps.length → bindArgs (PySem.W.kla_fn F.name F.qual F.params ex F.scope F.cl pm (.ref F.c) ctv) ⟨us, []⟩ = pure (ps.zip us)) (h : ∀ E, SimE (lamCt g N F.scope k E) ex fe) :
    NOkE g.P g.w g.K g.mg g.base (L2.CX g.P g.w) (k + 1) a F ex ps fr (spC g (fdLam N fe) ps.length fr.length) := by
  refine nokE_of S hb (fun ws vs H Q E ⟨ds, cs, us, ms, st, r, st', h1, h2, h3, h4, h5, h6, h7, h8⟩ => by rw [← h5.length, h1]) fun A outer s H vs ws Q E hr hl hsp => ?_
  obtain ⟨ds, cs, us, ms, st, r, st', h1, h2, h3, h4, h5, h6, h7, h8⟩ := hsp
  subst h3
  obtain ⟨t, pt, rt⟩ := h E
  have hNl : ps.length + fr.length ≤ N.length := by
    have q := congrArg List.length S.pre
    rw [List.length_take, List.length_append] at q
    omega
  refine ⟨t, pt _ ⟨rfl, rfl, rfl, rfl, rfl, rfl, rfl, rfl, hr, fun z => (by cases z), fun _ _ z => (by cases z), S.nd, fun _ z => (by cases z), passes_of rfl, takes_of rfl rfl rfl rfl, trivial⟩, ?_⟩
  unfold fdLam at h7
  split at h7
  · rename_i r0 st0 e0
    cases h7
    exact rt _ _ _ _ e0 ms _ H h4 (re_startF h5 h6 (by omega)) Q h8
  · cases h7
/-! ### relations do not speak of what is handed in -/
mutual
theorem rl_lam {g : Gs} {l : Option Lm} {ms : List Addr} {H : Hp} : ∀ {d : D} {v : V}, Rl g ms H d v → Rl { g with lam := l } ms H d v
  | _, _, .non => .non
  | _, _, .bl b => .bl b
  | _, _, .int i => .int i
  | _, _, .str x => .str x
  | _, _, .tup h a => .tup h (rlA_lam a)
  | _, _, .tcon h a => .tcon h (rlA_lam a)
  | _, _, .lcon h a => .lcon h (rlA_lam a)
  | _, _, .loc h => .loc h
  | _, _, .exn h => .exn h
  | _, _, .fn i => .fn i
  | _, _, .cl i => .cl i
  | _, _, .ty s => .ty s
theorem rlA_lam {g : Gs} {l : Option Lm} {ms : List Addr} {H : Hp} : ∀ {d : List D} {v : List V}, RlA g ms H d v → RlA { g with lam := l } ms H d v
  | _, _, .nil => .nil
  | _, _, .cons a b => .cons (rl_lam a) (rlA_lam b)
end
theorem rs_lam {g : Gs} {l : Option Lm} {ms : List Addr} {H : Hp} {st : Sto} (r : Rs g ms H st) : Rs { g with lam := l } ms H st := ⟨r.len, r.nd, fun n o a e1 e2 => by
  have z := r.at_ n o a e1 e2
  cases o with
  | lst ds =>
    obtain ⟨vs, h1, h2⟩ := z
    exact ⟨vs, h1, rlA_lam h2⟩
  | dK kvs =>
    obtain ⟨vs, h1, h2⟩ := z
    exact ⟨vs, h1, Paired.mapP h2 fun _ _ q => ⟨q.1, rl_lam q.2⟩⟩
  | dT kvs =>
    obtain ⟨vs, h1, h2⟩ := z
    exact ⟨vs, h1, Paired.mapP h2 fun _ _ q => ⟨q.1, rl_lam q.2⟩⟩, r.tabs⟩
theorem lam_back {g : Gs} {l : Option Lm} (h : g.lam = none) : { ({ g with lam := l } : Gs) with lam := none } = g := by
  cases g
  cases h
  rfl
/-! ### a def that takes a lambda as its last parameter -/
/-- what its context knows: the lambda's slot called gives what fdl computes -/
def Gives (g : Gs) (l : Lm) (fdl : FD) (n : Nat) (E : XK) (X : Cx) : Prop := ∀ (pins : List (Addr × Obj)) (σ : L2.St) (H : Hp) (s : Shared) (us : List Value) (vs : List V) (Q : VK), Inv X pins σ H s → H l.a = some (FnOE l.a l.F l.e) → H l.F.c = some (CodeO l.F.c l.F.qual) → Vals vs us →
  spC g fdl n l.cs.length (l.ws.map some) vs H Q E → wpAny (model X.prog X.w) X.A (call (.ref l.a) us) (EP X pins σ Q) X.xe s
abbrev defCL (g : Gs) (l : Lm) (fdl : FD) (n : Nat) (N : List Str) (st : Stmt) (k : Nat) (E : XK) : Cxt := { g := { g with lam := some l }, N := N, sc := defScope st, k := k, E := E, own := fun _ => true, hx := Gives g l fdl n E }
/-- the lambda's function, its captured values given -/
abbrev capF (fdl : FD) (cs : List D) : FD := fun ds st => fdl (ds ++ cs) st
section
variable {c : Cxt} {a b e : Expr} {es : List Expr} {fa fb : F3 D} {fr : F3 (List D)} {pos p p2 : Pos} {x : Str} {k : Nat} {st : Stmt} {ps : List Str} {fd : FD}
/-- the parameter called -/
theorem simE_callR {g : Gs} {l : Lm} {fdl : FD} {n : Nat} (hg : c.g = { g with lam := some l }) (hhx : c.hx = Gives g l fdl n c.E) (i : Nat) (hi : l.i = i) (hN : c.N[i]? = some x) (hv : visB c.sc x = true) (ha : SimA c (e :: es) fr) (hp : plainA (e :: es) = true := by rfl)
    (hd : (x == ("__debug__" : Str)) = false := by decide +kernel) (hcd : (x == ("__classdict__" : Str)) = false := by decide +kernel) : SimE c (.Call (.Name x p) (e :: es) [] pos) (fCall n (capF fdl l.cs) fr) := by
  obtain ⟨t, q, r⟩ := ha
  obtain ⟨h1, h2⟩ := plain_head hp
  refine ⟨fun σ H Q => σ[i]? = some (some (.ref l.a)) ∧ H l.a = some (FnOE l.a l.F l.e) ∧ t σ H fun vs H1 => H1 l.a = some (FnOE l.a l.F l.e) ∧ H1 l.F.c = some (CodeO l.F.c l.F.qual) ∧ spC g fdl n l.cs.length (l.ws.map some) vs H1 Q c.E, fun X o => ⟨fun pins s σ H Q I h => ?_⟩, ?_⟩
  · obtain ⟨hs, hf, ht⟩ := h
    have hX : Gives g l fdl n c.E X := by
      have := o.hx
      rw [hhx] at this
      exact this
    refine wpAny_Call_Name_kw (thn ((pe_var (pos := p) (by rw [o.N]; exact hN) (by rw [o.sc]; exact visB_ok hv) hd hcd).run pins s σ H (fun v H1 => v = .ref l.a ∧ H1 = H) I ⟨.ref l.a, hs, rfl, rfl⟩) fun u s1 ⟨v, H1, I1, r1, q1⟩ => ?_)
    obtain ⟨ev, eH⟩ := q1
    subst ev
    rw [eH] at I1
    obtain rfl : u = Value.ref l.a := r1
    refine PySem.W.callWith_F (first := []) (fnAtE I1 hf) (thn ((q X o).run pos pins s1 σ H _ I1 ht) fun us s2 ⟨vs, H2, I2, r, h3, h4, q⟩ => ⟨fnAtE I2 h3, ?_⟩) (starEach_plain h1) (star_any h2)
    exact hX pins σ H2 s2 us vs Q I2 h3 h4 r q
  · intro env st rr st' e0 ms σ H rs re Q hq
    rw [hg] at rs re hq r
    obtain ⟨k1, k2, k3, k4⟩ := re.lam l rfl
    refine ⟨by rw [← hi]; exact k1, k2, ?_⟩
    refine r.bind e0 rs re (fun ds st1 ms1 H1 fw rs1 re1 e1 vs hv' => ?_) fun c' ms1 H1 er fw rs1 => out_er hq er fw rs1
    split at e1
    · rename_i hl
      obtain ⟨m1, m2, m3, m4⟩ := re1.lam l rfl
      have tr : ∀ {d v}, RlA { g with lam := some l } ms1 H1 d v → RlA g ms1 H1 d v := fun h => by
        have := rlA_lam (l := g.lam) h
        exact this
      refine ⟨m2, m3, ds, l.cs, l.ws, ms1, st1, rr, st', hl, rfl, rfl, ?_, tr hv', tr m4, e1, fun ms2 H2 fw2 rs2 => ?_⟩
      · have := rs_lam (g := { g with lam := some l }) (l := g.lam) rs1
        exact this
      · have := hq ms2 H2 (fw.trans fw2) (rs_lam rs2)
        cases rr with
        | ok d => exact fun v hv2 => this v (rl_lam hv2)
        | er i => exact this
    · cases e1
end
/-- the promise of such a def: ps without the last parameter; fdn: what it computes, by what the lambda computes -/
structure DefOkL (g : Gs) (k : Nat) (x : Str) (st : Stmt) (ps : List Str) (n : Nat) (fdn : FD → FD) : Prop where
  ex : ∃ (f : Addr) (fdat : FuncData) (cdv : Value), L2.Fun g.K x x st f fdat ∧ g.mg x = some (.ref f) ∧ ∀ (fdl : FD) (l : Lm) (A : Around) (outer : List Env) (s : Shared) (H : Hp) (us : List Value) (vs : List V) (Q : VK) (E : XK), l.i = ps.length → Room k A → Env0 g.P g.w g.K g.mg g.base A outer s H →
    H l.a = some (FnOE l.a l.F l.e) → H l.F.c = some (CodeO l.F.c l.F.qual) →
    (∀ X : Cx, X.prog = g.P → X.w = g.w → X.K = g.K → X.mg = g.mg → X.base = g.base → X.s_0 = s → X.H_0 = H → X.ex = [] → X.outer = outer → Room (k - 1) X.A → Passes (L2.CX X.prog X.w) X E → Gives g l fdl n E X) →
    us.length = ps.length → Vals vs us →
    (∃ ds ms st r st', Rs g ms H st ∧ RlA g ms H ds vs ∧ RlA g ms H l.cs l.ws ∧ fdn (capF fdl l.cs) ds st = some (r, st') ∧ ∀ ms' H', Fw ms H ms' H' → Rs g ms' H' st' → Out g E (Rl g) r Q ms' H') →
    codeAny (model g.P g.w) A (.call (.ref f) ⟨us ++ [.ref l.a], []⟩) (CR (L2.CX g.P g.w) outer g.P g.w H s Q E) s
theorem re_startL {g : Gs} {l : Lm} {ms : List Addr} {H : Hp} {N : List Str} {ds : List D} {vs : List V} (r : RlA g ms H ds vs) (hi : l.i = ds.length) (h1 : H l.a = some (FnOE l.a l.F l.e)) (h2 : H l.F.c = some (CodeO l.F.c l.F.qual)) (h3 : RlA g ms H l.cs l.ws) (hN : ds.length < N.length) :
    Re { g with lam := some l } ms H (ds.map some ++ List.replicate (N.length - ds.length) none) (L2.start N (vs ++ [.ref l.a])) := by
  have hl := r.length
  refine ⟨by unfold L2.start; simp [hl]; omega, fun i d e => ?_, fun l' e => ?_⟩
  · by_cases hi : i < ds.length
    · rw [List.getElem?_append_left (by simpa using hi), List.getElem?_map] at e
      cases hd : ds[i]? with
      | none =>
        rw [hd] at e
        cases e
      | some d' =>
        rw [hd] at e
        cases e
        obtain ⟨v, h1, h2⟩ := r.get hd
        refine ⟨v, ?_, rl_lam h2⟩
        unfold L2.start
        rw [List.getElem?_append_left (by simp [← hl]; omega), List.getElem?_map, List.getElem?_append_left (by rw [← hl]; exact hi), h1]
        rfl
    · rw [List.getElem?_append_right (by simpa using hi)] at e
      have := List.mem_of_getElem? e
      simp at this
  · cases e
    refine ⟨?_, h1, h2, rlA_lam h3⟩
    unfold L2.start
    rw [List.getElem?_append_left (by simp [← hl]; omega), List.getElem?_map, List.getElem?_append_right (by rw [← hl]; omega), hi, hl]
    simp
theorem defOkL_of {g : Gs} [nl : NoLam g] {k n : Nat} {x : Str} {st : Stmt} {ps N : List Str} {pl : Str} {f : Addr} {fdat : FuncData} {fs : FD → FS} (F : L2.Fun g.K x x st f fdat) (hm : g.mg x = some (.ref f)) (S : FnScope N (ps ++ [pl]) (defScope st)) (hN : ps.length < N.length) (hbind : BindsBy x st (ps ++ [pl]).length (ps ++ [pl]))
    (h : ∀ (fdl : FD) (l : Lm) (E : XK), l.i = ps.length → SimSs (defCL g l fdl n N st k E) (defBody st) (fs (capF fdl l.cs))) : DefOkL g (k + 1) x st ps n (fun r => fdOf N.length (fs r)) := by
  obtain ⟨⟨oc, od, kV, doc, pm, an, cdv, ct, osl, rfl, lk, hcd⟩, kp⟩ := F
  refine ⟨f, _, cdv, ⟨⟨oc, od, kV, doc, pm, an, cdv, ct, osl, rfl, lk, hcd⟩, kp⟩, hm, fun fdl l A outer s H us vs Q E hi hr e0 h1 h2 hG hul hv hsp => ?_⟩
  obtain ⟨ds, ms, st0, r, st', rs, ra, rc, e, hq⟩ := hsp
  refine LamX.run_ofS (N := N) (ps := ps ++ [pl]) (us := us ++ [.ref l.a]) (vs := vs ++ [.ref l.a]) lk hcd S hr e0 (.of_eq (hbind _ _ _ _ _ _ (us ++ [.ref l.a]) (by simp [hul]))) (hv.append (show Vals [V.ref l.a] [Value.ref l.a] from .cons rfl .nil)) (by simp [hv.length, hul]) fun hr' => ?_
  obtain ⟨t, pt, rt⟩ := h fdl l E hi
  have tk : Takes (cxOf (L2.CX g.P g.w) g.P g.w g.K g.mg g.base N x (defScope st) f cdv A outer s H E) (fun cls d _ H => E cls d H) := takes_of rfl rfl rfl rfl
  refine ⟨t, pt _ ⟨rfl, rfl, rfl, rfl, rfl, rfl, rfl, rfl, hr', fun z => (by cases z), fun _ _ z => (by cases z), S.nd, fun _ _ => rfl, passes_of rfl, tk, hG _ rfl rfl rfl rfl rfl rfl rfl rfl rfl hr' (passes_call tk fun _ _ _ _ h => h)⟩, ?_⟩
  have hds : ds.length = ps.length := by rw [ra.length, hv.length, hul]
  have re0 := re_startL (N := N) ra (by rw [hi, hds]) h1 h2 rc (by rw [hds]; exact hN)
  have back : ∀ {r : R3 D} {ms' : List Addr} {H' : Hp}, Out g E (Rl g) r Q ms' H' → Out { g with lam := some l } E (Rl { g with lam := some l }) r Q ms' H' := fun {r ms' H'} o => by
    cases r with
    | ok d => exact fun v hv => o v (by
        have := rl_lam (l := g.lam) hv
        exact this)
    | er i => exact o
  have rsb : ∀ {ms' : List Addr} {H' : Hp} {st' : Sto}, Rs { g with lam := some l } ms' H' st' → Rs g ms' H' st' := fun r => by
    have := rs_lam (l := g.lam) r
    exact this
  unfold fdOf at e
  split at e
  · rename_i env1 st1 e1
    cases e
    exact rt _ _ _ _ _ e1 ms _ H (rs_lam rs) re0 _ fun ms1 H1 σ1 fw rs1 re1 => back (hq ms1 H1 fw (rsb rs1)) _ .non
  · rename_i d env1 st1 e1
    cases e
    exact rt _ _ _ _ _ e1 ms _ H (rs_lam rs) re0 _ fun ms1 H1 σ1 fw rs1 re1 v hv => back (hq ms1 H1 fw (rsb rs1)) v hv
  · rename_i c env1 st1 e1
    cases e
    exact rt _ _ _ _ _ e1 ms _ H (rs_lam rs) re0 _ fun ms1 H1 σ1 fw rs1 re1 => hq ms1 H1 fw (rsb rs1)
  · cases e
end S3

set_option maxHeartbeats 4000000
/-! S3Q: the call f(.., lambda x: ..). -/
namespace S3
open PySem PySem.Spec PyProof.Rows L2 LamX NdefX

theorem inv_fnE {X : Cx} {pins : List (Addr × Obj)} {σ : L2.St} {H : Hp} {s : Shared} {F : NF} {e : Expr} {o : Obj} {t' : Nat} {pm ctv : Value} (I : Inv X pins σ H s) (ho : o = { cls := .type "function", data := .func (PySem.W.kla_fn F.name F.qual F.params e F.scope F.cl pm (.ref F.c) ctv) }) :
    Inv X pins σ (upd H s.heap.objs.size (FnOE s.heap.objs.size F e)) { s with heap := s.heap.push o, toks := t' } := by
  subst ho
  refine I.laid (a := s.heap.objs.size) (fun b u e => Heap.get?_push_of_some _ e) (Nat.le_refl _) ?_
  have q : (s.heap.push ({ cls := .type "function", data := .func (PySem.W.kla_fn F.name F.qual F.params e F.scope F.cl pm (.ref F.c) ctv) } : Obj)).get? s.heap.objs.size = some ({ cls := .type "function", data := .func (PySem.W.kla_fn F.name F.qual F.params e F.scope F.cl pm (.ref F.c) ctv) } : Obj) := Heap.get?_push_size _ rfl
  exact ⟨⟨_, _, pm, ctv, q⟩, ⟨_, q⟩, fun h1 h2 ⟨od, sl, p, t, z⟩ st => ⟨od, sl, p, t, st _ z⟩⟩
abbrev lamF (X : Cx) (params : Arguments) (scope : Scope) (c' : Addr) : NF := ⟨"<lambda>", X.env.qual ++ "<lambda>", params, [], scope, cloFrom X.env.cells scope.names [], c'⟩
theorem lamE_make {X : Cx} {pins : List (Addr × Obj)} {σ : L2.St} {H : Hp} {s : Shared} {T : List (Addr × Str)} {c P : Addr} {params : Arguments} {body : Expr} {scope : Scope} {pos : Pos} {E : Value → Shared → Prop} {Q : Value → Shared → Prop} (I : Inv X pins σ H s) (TB : TabB X.base X.mg c P) (hcode : X.env.code = .ref c)
    (hm : (P, X.env.qual ++ "<lambda>") ∈ T) (hu : ∀ p ∈ T, p.1 = P → p.2 = X.env.qual ++ "<lambda>") (hT : Tabs T H) (hdef : defaultsOf params X.env = ([], [])) (hfree : ∀ y ∈ scope.names, y.2 = .free → ∃ c, X.env.cells.lookup y.1 = some c)
    (h : ∀ (f c' : Addr) (H1 : Hp) (s' : Shared), Inv X pins σ H1 s' → ExtN H H1 → Tabs T H1 → H1 f = some (FnOE f (lamF X params scope c') body) → H1 c' = some (CodeO c' (X.env.qual ++ "<lambda>")) → Q (.ref f) s') :
    wpAny (model X.prog X.w) X.A (eval (.Lambda params body scope pos) X.env) Q E s := by
  obtain ⟨ps, hP, ht, ha⟩ := hT _ hm
  refine PySem.W.kla_eval hdef ?_
  have bP : s.heap.BuiltinsAt X.mg P := TB.bm.keeps I.bk
  have hP' : s.heap.get? P = some { cls := .none, data := .fields ps } := I.hok P _ hP
  cases hc : codeAmong pos ps.toList with
  | none =>
    refine PySem.W.kla_makeFunction (mg := X.mg) (c := c) (P := P) (ps := ps) (closure_ok hfree) I.ok.glob (I.mod.glob.keeps I.bk) hcode (TB.code.keeps I.bk) hP' ht hc TB.gP bP fun c' ctv h' tk hx hge hlt hrec htb => ?_
    obtain ⟨c2, oc, vs, t, e2, hoc, hd, hv⟩ := hrec
    cases e2
    have nC : H c' = none := I.hok.fresh hge
    have I1 := inv_table (t' := tk) (more := #[rawInt pos.line, rawInt pos.col, .ref c']) (h' := h') I hP (fun b o hb e => hx b o hb e) htb hge ⟨oc, vs, t, hoc, hd, hv⟩
    have hE : ExtN H (upd (upd H P (.tbl (ps ++ #[rawInt pos.line, rawInt pos.col, .ref c']))) c' (CodeO c' (X.env.qual ++ "<lambda>"))) := fun b o e n => by
      rw [upd_ne (ne_of_none e nC), upd_ne (fun z => n ps (Option.some.inj (e.symm.trans (by rw [z]; exact hP))))]
      exact e
    have eL : (ps ++ #[rawInt pos.line, rawInt pos.col, .ref c']).toList = ps.toList ++ [rawInt pos.line, rawInt pos.col, .ref c'] := by simp
    have T1 : Tabs T (upd (upd H P (.tbl (ps ++ #[rawInt pos.line, rawInt pos.col, .ref c']))) c' (CodeO c' (X.env.qual ++ "<lambda>"))) := fun p hp => by
      by_cases hb : p.1 = P
      · rw [hu p hp hb, hb]
        refine ⟨_, by rw [upd_ne (ne_of_none hP nC), upd_same], by rw [eL]; exact PySem.TriplesOk_snoc _ _ _ _ ht, fun p' cv hcv => ?_⟩
        rw [eL] at hcv
        rcases among_app _ ht hcv with z | z
        · obtain ⟨c0, e1, e2⟩ := ha p' cv z
          exact ⟨c0, e1, hE _ _ e2 codeO_ne⟩
        · exact ⟨c', z, upd_same⟩
      · obtain ⟨ps', a1, a2, a3⟩ := hT p hp
        refine ⟨ps', by rw [upd_ne (ne_of_none a1 nC), upd_ne hb]; exact a1, a2, fun p' cv hcv => ?_⟩
        obtain ⟨c0, e1, e2⟩ := a3 p' cv hcv
        exact ⟨c0, e1, hE _ _ e2 codeO_ne⟩
    have nF := I1.hok.fresh (Nat.le_refl _)
    have I2 := inv_fnE (F := lamF X params scope c') (e := body) (t' := tk) (pm := (X.mg "__name__").getD .none) (ctv := ctv) I1 rfl
    refine h h'.objs.size c' _ _ I2 (fun b o e n => ?_) (T1.ext fun b o e => ?_) upd_same ?_
    · have e1 := hE b o e n
      exact (upd_ne (ne_of_none e1 nF)).trans e1
    · exact (upd_ne (ne_of_none e nF)).trans e
    · exact (upd_ne (Nat.ne_of_lt hlt)).trans upd_same
  | some cv =>
    obtain ⟨c', e, hco⟩ := ha pos cv hc
    subst e
    refine PySem.W.kla_makeFunctionHit (mg := X.mg) (c := c) (P := P) (ps := ps) (closure_ok hfree) I.ok.glob (I.mod.glob.keeps I.bk) hcode (TB.code.keeps I.bk) hP' ht hc bP fun ctv h' tk hx hsz => ?_
    have I1 : Inv X pins σ H { s with heap := h', toks := tk } := I.kept hx
    have nF : H h'.objs.size = none := I1.hok.fresh (Nat.le_refl _)
    have I2 := inv_fnE (F := lamF X params scope c') (e := body) (t' := tk) (pm := (X.mg "__name__").getD .none) (ctv := ctv) I1 rfl
    refine h h'.objs.size c' _ _ I2 (fun b o e n => ?_) (hT.ext fun b o e => ?_) upd_same ?_
    · exact (upd_ne (ne_of_none e nF)).trans e
    · exact (upd_ne (ne_of_none e nF)).trans e
    · exact (upd_ne (ne_of_none hco nF)).trans hco
/-! ### arguments of which the last is a lambda -/
def APL (X : Cx) (T : List (Addr × Str)) (params : Arguments) (body : Expr) (scope : Scope) (pins : List (Addr × Obj)) (σ : L2.St) (Q : List V → Hp → Prop) (us' : List Value) (s' : Shared) : Prop :=
  ∃ us f xs H1 H2 c', us' = us ++ [.ref f] ∧ Inv X pins σ H2 s' ∧ Vals xs us ∧ Q xs H1 ∧ ExtN H1 H2 ∧ Tabs T H2 ∧ H2 f = some (FnOE f (lamF X params scope c') body) ∧ H2 c' = some (CodeO c' (X.env.qual ++ "<lambda>"))
structure PAL (X : Cx) (T : List (Addr × Str)) (params : Arguments) (body : Expr) (scope : Scope) (args : List Expr) (t : TA) : Prop where
  run : ∀ (pos : Pos) (pins : List (Addr × Obj)) (s : Shared) (σ : L2.St) (H : Hp) (Q : List V → Hp → Prop), Inv X pins σ H s → t σ H (fun vs H1 => Tabs T H1 ∧ Q vs H1) → wpAny (model X.prog X.w) X.A (spliced (backTo pos (starEach args X.env))) (APL X T params body scope pins σ Q) X.xe s
theorem pal_lam {X : Cx} {T : List (Addr × Str)} {c P : Addr} {params : Arguments} {body : Expr} {scope : Scope} {lpos : Pos} (TB : TabB X.base X.mg c P) (hcode : X.env.code = .ref c) (hm : (P, X.env.qual ++ "<lambda>") ∈ T) (hu : ∀ p ∈ T, p.1 = P → p.2 = X.env.qual ++ "<lambda>") (hdef : defaultsOf params X.env = ([], []))
    (hfree : X.Ok → ∀ y ∈ scope.names, y.2 = .free → ∃ c, X.env.cells.lookup y.1 = some c) : PAL X T params body scope [.Lambda params body scope lpos] tNil := by
  refine ⟨fun pos pins s σ H Q I h => ?_⟩
  obtain ⟨hT, hq⟩ := h
  show wpAny _ _ (spliced ((false, eval (.Lambda params body scope lpos) X.env) :: backTo pos (starEach [] X.env))) _ _ s
  refine Calls.spliced_cons (lamE_make I TB hcode hm hu hT hdef (hfree I.ok) fun f c' H1 s' I1 eN T1 hf hc => ?_)
  exact Calls.spliced_nil ⟨[], f, [], H, H1, c', rfl, I1, .nil, hq, eN, T1, hf, hc⟩
theorem pal_cons {X : Cx} {T : List (Addr × Str)} {params : Arguments} {body : Expr} {scope : Scope} {e : Expr} {es : List Expr} {te : TE} {t : TA} (ha : PE X e te) (hr : PAL X T params body scope es t) (hs : starEach (e :: es) X.env = (false, eval e X.env) :: starEach es X.env) : PAL X T params body scope (e :: es) (tCons te t) := by
  refine ⟨fun pos pins s σ H Q I h => ?_⟩
  rw [hs]
  show wpAny _ _ (spliced ((false, eval e X.env) :: backTo pos (starEach es X.env))) _ _ s
  refine Calls.spliced_cons (thn (ha.run pins s σ H _ I h) fun u s1 ⟨x, H1, I1, r1, q1⟩ => ?_)
  refine thn (hr.run pos pins s1 σ H1 (fun xs H2 => Q (x :: xs) H2) I1 q1) fun us' s2 ⟨us, f, xs, H2, H3, c', e1, I3, r2, q2, eN, T3, hf, hc⟩ => ?_
  subst e1
  exact ⟨u :: us, f, x :: xs, H2, H3, c', rfl, I3, .cons r1 r2, q2, eN, T3, hf, hc⟩
def SimAL (c : Cxt) (params : Arguments) (body : Expr) (scope : Scope) (args : List Expr) (f : F3 (List D)) : Prop := ∃ t : TA, (∀ X, OkX c X → PAL X c.g.T params body scope args t) ∧ Rd c.g c.E (RlA c.g) t f
section
variable {c : Cxt} {a b e : Expr} {es : List Expr} {fa fb : F3 D} {fr : F3 (List D)} {pos lpos p p2 : Pos} {x : Str} {k : Nat} {st : Stmt} {ps : List Str} {params : Arguments} {body : Expr} {scope : Scope}
theorem simAL_lam {u P : Addr} {q : Str} (hl : c.lam = some (u, q)) (TB : LamX.TabB c.g.base c.g.mg u P) (hT : (P, q ++ "<lambda>") ∈ c.g.T) (hu : ∀ p ∈ c.g.T, p.1 = P → p.2 = q ++ "<lambda>") (hdef : ∀ env : Env, defaultsOf params env = ([], [])) (hL : NdefX.ndefB c.sc scope [] = true) : SimAL c params body scope [.Lambda params body scope lpos] fNil := by
  refine ⟨tNil, fun X o => ?_, Rd.ret (fun _ _ => .nil) fun _ _ _ h => by cases h; rfl⟩
  obtain ⟨ec, eq⟩ := o.lamb u q hl
  exact pal_lam (c := u) (P := P) (by rw [o.base, o.mg]; exact TB) ec (by rw [eq]; exact hT) (by rw [eq]; exact hu) (hdef _) fun ok y hy e => by
    have := NdefX.ndef_free hL y hy e
    rw [← o.sc] at this
    exact this.elim (fun z => ok.has _ (.inl z)) fun z => ok.has _ (.inr z)
theorem simAL_cons (he : SimE c e fa) (hr : SimAL c params body scope es fr) (hp : plainE e = true := by rfl) : SimAL c params body scope (e :: es) (fCons fa fr) := by
  obtain ⟨te, pe, re⟩ := he
  obtain ⟨ta, pa, ra⟩ := hr
  exact ⟨tCons te ta, fun X o => pal_cons (pe X o) (pa X o) (starEach_plain hp), re.cons ra⟩
/-- the captured values, off the slots -/
def capsE (env : Env3) : List Nat → Option (List D)
  | [] => some []
  | j :: js => match env[j]?, capsE env js with
    | some (some d), some ds => some (d :: ds)
    | _, _ => none
def fCallLm (n : Nat) (js : List Nat) (fdn : FD → FD) (fdl : FD) (fr : F3 (List D)) : F3 D := bnd fr fun ds env st => if ds.length = n then match capsE env js with
  | some cs => fdn (capF fdl cs) ds st
  | none => none else none
theorem caps_ok {g : Gs} {ms : List Addr} {H : Hp} {env : Env3} {σ : L2.St} (re : Re g ms H env σ) : ∀ {js : List Nat} {cs : List D}, capsE env js = some cs → ∃ ws, js.map (slotAt σ) = ws.map some ∧ RlA g ms H cs ws
  | [], cs, e => by
    cases e
    exact ⟨[], rfl, .nil⟩
  | j :: js, cs, e => by
    unfold capsE at e
    split at e
    · rename_i d ds e1 e2
      cases e
      obtain ⟨v, h1, h2⟩ := re.at_ j d e1
      obtain ⟨ws, h3, h4⟩ := caps_ok re e2
      exact ⟨v :: ws, by rw [List.map_cons, h3, slotAt_of h1]; rfl, .cons h2 h4⟩
    · cases e
theorem rs_extN {g : Gs} {ms : List Addr} {H H1 : Hp} {st : Sto} (rs : Rs g ms H st) (eN : ExtN H H1) (T1 : Tabs g.T H1) : Fw ms H ms H1 ∧ Rs g ms H1 st := by
  have fw : Fw ms H ms H1 := ⟨List.prefix_rfl, ⟨fun b o hb' hf => eN b o hb' fun ps z => by rw [z] at hf; exact hf⟩⟩
  exact ⟨fw, ⟨rs.len, rs.nd, fun n o a e1 e2 => by
    have z := rs.at_ n o a e1 e2
    obtain ⟨y, hy, ny, nt, _⟩ := z.some
    exact z.mono fw ((eN a y hy nt).trans hy.symm), T1⟩⟩
theorem simE_callLm [nl : NoLam c.g] {args : List Expr} {fdn : FD → FD} {m kl n : Nat} {js : List Nat} {Nl pl frl : List Str} {fe : F3 D} (hm : m = ps.length) (F : DefOkL c.g k x st ps n fdn) (hk : k ≤ c.k) (hkl : kl + 2 ≤ k) (hg : glB c.sc x = true) (ha : SimAL c params body scope args fr)
    (S : NScope Nl pl frl scope) (hn : pl.length = n) (hbl : ∀ (q : Str) (cl : List (Str × Addr)) (pm cv ctv : Value) (us : List Value), us.length = pl.length → bindArgs (PySem.W.kla_fn "<lambda>" q params body scope cl pm cv ctv) ⟨us, []⟩ = pure (pl.zip us))
    (hL : NdefX.ndefB c.sc scope frl = true) (hjs : js.map (fun j => c.N[j]?) = frl.map some) (hown : ∀ y, c.own y = true) (hb : ∀ E, SimE (lamCt c.g Nl scope kl E) body fe)
    (hplain : ∀ env : Env, ∃ e es, args = e :: es ∧ starEach (e :: es) env = (false, eval e env) :: starEach es env ∧ (backTo pos (starEach es env)).any (·.1) = false) : SimE c (.Call (.Name x p) args [] pos) (fCallLm m js fdn (fdLam Nl fe) fr) := by
  obtain ⟨t, q, r⟩ := ha
  obtain ⟨f, fdat, cdv, Fu, hmg, run⟩ := F.ex
  refine ⟨fun σ H Q => t σ H fun vs H1 => Tabs c.g.T H1 ∧ ∃ cs ws ds ms st1 r st', js.map (slotAt σ) = ws.map some ∧ ds.length = m ∧ Rs c.g ms H1 st1 ∧ RlA c.g ms H1 ds vs ∧ RlA c.g ms H1 cs ws ∧ cs.length = frl.length ∧ fdn (capF (fdLam Nl fe) cs) ds st1 = some (r, st') ∧ ∀ ms' H', Fw ms H1 ms' H' → Rs c.g ms' H' st' → Out c.g c.E (Rl c.g) r Q ms' H', fun X o => ⟨fun pins s σ H Q I h => ?_⟩, ?_⟩
  · refine wpAny_Call_Name_kw (ld_glob I (o.gl hg) (by rw [o.mg]; exact hmg) ?_ (glB_nd hg))
    obtain ⟨e0, es0, ea, he0, hp0⟩ := hplain X.env
    subst ea
    refine PySem.W.callWith_K (h₀ := X.base) I.ok.mod.kin (by rw [o.K]; exact Fu.kp) (thn ((q X o).run pos pins s σ H (fun vs H1 => ∃ cs ws ds ms st1 r st', js.map (slotAt σ) = ws.map some ∧ ds.length = m ∧ Rs c.g ms H1 st1 ∧ RlA c.g ms H1 ds vs ∧ RlA c.g ms H1 cs ws ∧ cs.length = frl.length ∧ fdn (capF (fdLam Nl fe) cs) ds st1 = some (r, st') ∧ ∀ ms' H', Fw ms H1 ms' H' → Rs c.g ms' H' st' → Out c.g c.E (Rl c.g) r Q ms' H') I h) fun us' s2 hw => ?_) he0 hp0
    obtain ⟨us, fl, xs, H1, H2, c', e1, I2, rv, ⟨cs, ws, ds, ms, st1, rr, st', hsl, hdl, rs1, ra1, rc1, hcl, efd, hq⟩, eN, T2, hf, hc⟩ := hw
    subst e1
    refine ⟨I2.kIn, ?_⟩
    show wpAny _ _ (call (.ref f) (us ++ [.ref fl])) _ _ _
    obtain ⟨fw, rs2⟩ := rs_extN rs1 eN T2
    have hst : ∀ {y : Str} {cc : Addr}, (cloFrom X.env.cells scope.names []).lookup y = some cc → X.env.cells.lookup y = some cc := fun {y cc} e => clo_cm (fun y hy e => by
      have := NdefX.ndef_free hL y hy e
      rw [← o.sc] at this
      exact this.elim (fun z => I2.ok.has _ (.inl z)) fun z => I2.ok.has _ (.inr z)) e
    have cells : CellsAt (cloFrom X.env.cells scope.names []) frl (ws.map some) s2.heap H2 := by
      have := cells_of I2 (Caps.made I2.ok (fun y hy e => by
        have := NdefX.ndef_free hL y hy e
        rw [← o.sc] at this
        exact this) (NdefX.ndef_fr hL) (by rw [o.N]; exact hjs))
      rw [hsl] at this
      exact this
    have nf : ∀ y cc, (cloFrom X.env.cells scope.names []).lookup y = some cc → cc ∉ frs X.stack := fun y cc e hmem => by
      have ec := hst e
      obtain ⟨v, oc, hoc, hdc⟩ := I2.cell y cc ec
      rcases List.mem_cons.mp (I2.stkSub _ hmem) with z | z
      · obtain ⟨mm, ⟨ob, es, ep, hob, hd, _⟩, _⟩ := I2.loc
        rw [z] at hoc
        rw [hob] at hoc
        cases hoc
        rw [hd] at hdc
        cases hdc
      · have hcab := I2.ok.cab y cc (o.fn y (hown y)) ec
        obtain ⟨_, o2, ho2, _⟩ := I2.ok.funs.mem z
        exact absurd (Heap.lt_size ho2) (Nat.not_lt.mpr hcab)
    have nok := nokE_sim (g := c.g) (N := Nl) (ps := pl) (fr := frl) (F := lamF X params scope c') (ex := body) (a := fl) (k := kl) (fe := fe) S (fun pm ctv us hu => hbl _ _ _ _ _ us hu) hb
    let l : Lm := ⟨ps.length, fl, lamF X params scope c', body, cs, ws⟩
    have hwl : us.length = ps.length := by rw [← rv.length, ← ra1.length, hdl, hm]
    have go := run (fdLam Nl fe) l X.A X.stack s2 H2 us xs Q c.E rfl (o.room.mono hk) (by have := I2.env0; rw [o.prog, o.w, o.K, o.mg, o.base] at this; exact this) hf hc (fun X' p1 p2 q1 q2 q3 p3 p4 p5 p6 p7 p8 => ?_) hwl rv ⟨ds, ms, st1, rr, st', rs2, fw.rlA ra1, fw.rlA rc1, efd, fun ms' H' fw' rs' => hq ms' H' (fw.trans fw') rs'⟩
    · rw [o.prog, o.w]
      refine wpAny_call (codeAny_mono go fun r' s' hr => ?_)
      cases r' with
      | error e =>
        have hr : L2.CX c.g.P c.g.w X.stack H2 s2 c.E e s' := hr
        rw [← o.prog, ← o.w] at hr
        exact o.pass pins σ H2 s2 e s' I2 hr
      | ok fl' =>
        cases fl' with
        | ret u =>
          refine I2.after ?_
          have hr : CE X.stack c.g.P c.g.w H2 s2 Q u s' := hr
          rw [← o.prog, ← o.w] at hr
          exact hr
        | next => exact False.elim hr
        | brk => exact False.elim hr
        | cont => exact False.elim hr
    · intro pins' σ' H' s' us' vs' Q' I' hf' hc' r' hsp
      have later := CellsAt.later (X := X') (cl := cloFrom X.env.cells scope.names []) (fr := frl) (ws := ws.map some) (by rw [p3, p4]; exact cells) (fun y cc e => by
        show cc ∉ frs X'.outer
        rw [p6]
        exact nf y cc e) (fun y cc e => by rw [p5]; simp) I'
      have e0' := I'.env0
      rw [p1, p2, q1, q2, q3] at e0'
      have hsp' : spC c.g (fdLam Nl fe) pl.length frl.length (ws.map some) vs' H' Q' c.E := by
        rw [hn, ← hcl]
        exact hsp
      have go2 := nok.run X'.A X'.stack s' H' us' vs' (ws.map some) Q' c.E (p7.mono (by omega)) e0' hf' hc' later r' hsp'
      rw [← p1, ← p2] at go2
      refine wpAny_call (codeAny_mono go2 fun r2 s3 hr => ?_)
      cases r2 with
      | error e => exact p8 pins' σ' H' s' e s3 I' hr
      | ok fl' =>
        cases fl' with
        | ret u => exact I'.after hr
        | next => exact False.elim hr
        | brk => exact False.elim hr
        | cont => exact False.elim hr
  · intro env st0 rr st' e0 ms σ H rs re Q hq
    refine r.bind e0 rs re (fun ds st1 ms1 H1 fw rs1 re1 e1 vs hv => ?_) fun c ms1 H1 er fw rs1 => out_er hq er fw rs1
    split at e1
    · rename_i hdl
      split at e1
      · rename_i cs hcs
        obtain ⟨ws, hw1, hw2⟩ := caps_ok re1 hcs
        have hcl : cs.length = frl.length := by
          have h1 := congrArg List.length hw1
          have h2 := congrArg List.length hjs
          simp at h1 h2
          rw [hw2.length, ← h1, h2]
        exact ⟨rs1.tabs, cs, ws, ds, ms1, st1, rr, st', hw1, hdl, rs1, hv, hw2, hcl, e1, fun ms2 H2 fw2 rs2 => hq ms2 H2 (fw.trans fw2) rs2⟩
      · cases e1
    · cases e1
end
end S3

set_option maxHeartbeats 4000000
/-! S3R: sorted of texts; texts and tuples that are constants of the module; a def that makes lambdas. -/
namespace S3
open PySem PySem.Spec PyProof.Rows L2

/-! ### sorted of texts -/
def strsOf : List D → Option (List Str)
  | [] => some []
  | .str i :: r => match strsOf r with
    | some is => some (i :: is)
    | none => none
  | _ => none
def leS (a b : Str) : Bool := decide (a.cps.toList ≤ b.cps.toList)
def ssort (l : List Str) : List Str := l.mergeSort leS
theorem ssort_perm (l : List Str) : (ssort l).Perm l := List.mergeSort_perm _ _
theorem ssort_sorted (l : List Str) : (ssort l).Pairwise fun a b => a.cps.toList ≤ b.cps.toList := by
  have h := List.pairwise_mergeSort (le := leS) (fun a b c h1 h2 => by simp only [leS, decide_eq_true_eq] at *; exact List.le_trans h1 h2) (fun a b => by simp only [leS, Bool.or_eq_true, decide_eq_true_eq]; exact List.le_total _ _) l
  exact h.imp fun h => of_decide_eq_true h
theorem str_ext {a b : Str} (h : a.cps.toList = b.cps.toList) : a = b := by
  obtain ⟨x⟩ := a
  obtain ⟨y⟩ := b
  have : x = y := Array.toList_inj.mp h
  rw [this]
theorem ssort_unique {l l' : List Str} (h1 : l'.Perm l) (h2 : l'.Pairwise fun a b => a.cps.toList ≤ b.cps.toList) : l' = ssort l :=
  (h1.trans (ssort_perm l).symm).eq_of_pairwise (fun x y _ _ h1 h2 => str_ext (List.le_antisymm h1 h2)) h2 (ssort_sorted l)
theorem risingS_pw : ∀ (l : List Str) (p : Str), risingS p l = true → (p :: l).Pairwise fun a b => a.cps.toList ≤ b.cps.toList
  | [], p, _ => by simp
  | x :: r, p, h => by
    unfold risingS at h
    simp only [Bool.and_eq_true, Bool.not_eq_true'] at h
    have ih := risingS_pw r x h.2
    have hx : p.cps.toList ≤ x.cps.toList := by
      have := h.1
      rw [ltCps_eq] at this
      exact of_decide_eq_false this
    rw [List.pairwise_cons]
    refine ⟨fun y hy => ?_, ih⟩
    rcases List.mem_cons.mp hy with rfl | hy
    · exact hx
    · exact List.le_trans hx ((List.pairwise_cons.mp ih).1 y hy)
theorem sortedS_pw {l : List Str} (h : sortedS l = true) : l.Pairwise fun a b => a.cps.toList ≤ b.cps.toList := by
  cases l with
  | nil => exact .nil
  | cons x r => exact risingS_pw r x h
theorem rlA_strs {g : Gs} {ms : List Addr} {H : Hp} : ∀ is : List Str, RlA g ms H (is.map D.str) (is.map V.str)
  | [] => .nil
  | i :: r => .cons (.str i) (rlA_strs r)
theorem strs_ds : ∀ {ds : List D} {is : List Str}, strsOf ds = some is → ds = is.map D.str
  | [], is, h => by
    cases h
    rfl
  | d :: ds, is, h => by
    cases d <;> try cases h
    unfold strsOf at h
    split at h
    · rename_i r hr
      cases h
      rw [strs_ds hr]
      rfl
    · cases h
theorem rlA_strs_eq {g : Gs} {ms : List Addr} {H : Hp} : ∀ {is : List Str} {vs : List V}, RlA g ms H (is.map D.str) vs → vs = is.map V.str
  | [], _, .nil => rfl
  | i :: r, _, .cons h a => by
    cases h
    rw [rlA_strs_eq a]
    rfl
def oSortedS : F1 (List D) D := fun p st => match p with
  | [x] => match seqL st x with
    | some ds => match strsOf ds with
      | some is => if is.length < 64 then some (.loc st.length, st ++ [.lst ((ssort is).map D.str)]) else none
      | none => none
    | none => none
  | _ => none
theorem opS_sortedS {g : Gs} : OpS g (RlA g) (Rl g) (rSortedS g.K) oSortedS := by
  intro ds st z st' e ms H vs rs hv Q h
  unfold oSortedS at e
  split at e
  · obtain ⟨v, rfl, hv1⟩ := hv.one'
    split at e
    · rename_i es e1
      split at e
      · rename_i is e2
        split at e
        · rename_i hl
          cases e
          obtain ⟨p, xs, rfl, hp, ha⟩ := seqL_ok rs hv1 e1
          rw [strs_ds e2] at ha
          rw [rlA_strs_eq ha] at hp
          refine ⟨p, is, rfl, hp, hl, fun ns' b k1 k2 hb => ?_⟩
          rw [ssort_unique k1 (sortedS_pw k2)]
          obtain ⟨fw, rs2, r⟩ := rs.alloc (o := .lst ((ssort is).map V.str)) (u := .lst ((ssort is).map D.str)) hb fun f e => ⟨_, e, rlA_strs _⟩
          exact h _ _ _ fw rs2 r
        · cases e
      · cases e
    · cases e
  · cases e
section
variable {c : Cxt} {a b e : Expr} {es : List Expr} {fa fb : F3 D} {fr : F3 (List D)} {pos p p2 : Pos} {x : Str}
theorem simE_sortedS (hg : glB c.sc "sorted" = true) (hm : c.g.mg "sorted" = none) (ha : SimA c (e :: es) fr) (hp : plainA (e :: es) = true := by rfl) : SimE c (.Call (.Name "sorted" p) (e :: es) [] pos) (fArgs oSortedS fr) := simE_callB (fun X o => by rw [← o.K]; exact cr_sortedS) opS_sortedS hg hm (by decide +kernel) ha hp
/-! ### constants of the module -/
theorem simE_cstr {z : Str} (hg : glB c.sc x = true) (h : ∃ t, c.g.mg x = some (.str z t)) : SimE c (.Name x pos) (ret3 (.str z)) := simE_glob (v := .str z) hg h.choose_spec ⟨_, rfl⟩ fun _ _ => .str _
theorem simE_tcon {ds : List D} (hg : glB c.sc x = true) (h : ∃ a, c.g.mg x = some (.ref a) ∧ ∀ ms H, Rl c.g ms H (.tcon ds) (.ref a)) : SimE c (.Name x pos) (ret3 (.tcon ds)) := simE_glob (v := .ref h.choose) hg h.choose_spec.1 rfl h.choose_spec.2
end
theorem nl_of {g : Gs} {l : Lm} {i j : Nat} (hi : l.i = i) (h : i ≠ j) : NL { g with lam := some l } j := ⟨fun l' e => by
  cases e
  rw [hi]
  exact h⟩
theorem nls_of {g : Gs} {l : Lm} {i : Nat} {vs : List Nat} (hi : l.i = i) (h : i ∉ vs) : NLs { g with lam := some l } vs := ⟨fun j hj l' e => by
  cases e
  rw [hi]
  exact fun z => h (z ▸ hj)⟩
/-! ### a def that makes lambdas -/
theorem defOk_ofM {g : Gs} [NoLam g] {k : Nat} {x : Str} {st : Stmt} {ps N : List Str} {f u : Addr} {fdat : FuncData} {fs : FS} (F : L2.Fun g.K x x st f fdat) (hcode : ∀ oc od dt osl, g.K.lookup f = some ⟨oc, od, .func dt, osl⟩ → dt.code = .ref u) (hm : g.mg x = some (.ref f)) (S : FnScope N ps (defScope st))
    (h : ∀ E, SimSs { defC g N st k E with lam := some (u, x ++ ".<locals>.") } (defBody st) fs) : DefOk g (k + 1) x st ps (fdOf N.length fs) := by
  refine ⟨f, fdat, F, hm, ?_⟩
  obtain ⟨oc, od, kV, doc, pm, an, cdv, ct, osl, rfl, lk, hcd⟩ := F.ex
  have ec : cdv = .ref u := hcode _ _ _ _ lk
  refine fn_of lk hcd S spOf_len fun A outer s H vs Q E hr hsp => ?_
  obtain ⟨t, pt, rt⟩ := h E
  refine ⟨t, pt _ ⟨rfl, rfl, rfl, rfl, rfl, rfl, rfl, rfl, hr, fun z => (by cases z), fun u' q' z => ?_, S.nd, fun _ _ => rfl, passes_of rfl, takes_of rfl rfl rfl rfl, trivial⟩, spOf_body rt hsp⟩
  cases z
  exact ⟨ec, rfl⟩
end S3

set_option maxHeartbeats 4000000
/-! S4A: what the functions give, read from the left. -/
namespace S3
open PySem PyProof.Rows

/-- f ends well, so that Q -/
def Ok {α : Type} (f : F3 α) (env : Env3) (st : Sto) (Q : α → Sto → Prop) : Prop := ∃ a st', f env st = some (.ok a, st') ∧ Q a st'
def Wo {α β : Type} (o : F1 α β) (a : α) (st : Sto) (Q : β → Sto → Prop) : Prop := ∃ b st', o a st = some (b, st') ∧ Q b st'
def Wd (d : FD) (ds : List D) (st : Sto) (Q : D → Sto → Prop) : Prop := ∃ r st', d ds st = some (.ok r, st') ∧ Q r st'
def Ws (f : FS) (env : Env3) (st : Sto) (Q : Fl → Env3 → Sto → Prop) : Prop := ∃ r env' st', f env st = some (r, env', st') ∧ Q r env' st'
theorem Ok.mono {α : Type} {f : F3 α} {env : Env3} {st : Sto} {Q Q' : α → Sto → Prop} (h : Ok f env st Q) (k : ∀ a st', Q a st' → Q' a st') : Ok f env st Q' := by
  obtain ⟨a, s, e, q⟩ := h
  exact ⟨a, s, e, k a s q⟩
theorem Wd.mono {d : FD} {ds : List D} {st : Sto} {Q Q' : D → Sto → Prop} (h : Wd d ds st Q) (k : ∀ a st', Q a st' → Q' a st') : Wd d ds st Q' := by
  obtain ⟨a, s, e, q⟩ := h
  exact ⟨a, s, e, k a s q⟩
theorem Ws.mono {f : FS} {env : Env3} {st : Sto} {Q Q' : Fl → Env3 → Sto → Prop} (h : Ws f env st Q) (k : ∀ r env' st', Q r env' st' → Q' r env' st') : Ws f env st Q' := by
  obtain ⟨a, v, s, e, q⟩ := h
  exact ⟨a, v, s, e, k a v s q⟩
section
variable {α β : Type} {f : F3 α} {k : α → F3 β} {env : Env3} {st : Sto} {fa fb fc : F3 D} {fr : F3 (List D)}
@[simp] theorem Ok_bnd {Q : β → Sto → Prop} : Ok (bnd f k) env st Q ↔ Ok f env st fun a st1 => Ok (k a) env st1 Q := by
  constructor
  · rintro ⟨b, s, e, q⟩
    unfold bnd at e
    split at e
    · rename_i a s1 e1
      exact ⟨a, s1, e1, b, s, e, q⟩
    · cases e
    · cases e
  · rintro ⟨a, s1, e1, b, s, e, q⟩
    exact ⟨b, s, by unfold bnd; rw [e1]; exact e, q⟩
@[simp] theorem Ok_ret {a : α} {Q : α → Sto → Prop} : Ok (ret3 a) env st Q ↔ Q a st := by
  constructor
  · rintro ⟨b, s, e, q⟩
    cases e
    exact q
  · exact fun q => ⟨a, st, rfl, q⟩
@[simp] theorem Ok_lift {o : F1 α β} {a : α} {Q : β → Sto → Prop} : Ok (lift o a) env st Q ↔ Wo o a st Q := by
  constructor
  · rintro ⟨b, s, e, q⟩
    unfold lift at e
    split at e
    · rename_i c s1 e1
      cases e
      exact ⟨_, _, e1, q⟩
    · cases e
  · rintro ⟨b, s, e, q⟩
    exact ⟨b, s, by unfold lift; rw [e], q⟩
theorem Ok_var {i : Nat} {d : D} {Q : D → Sto → Prop} (h : env[i]? = some (some d)) : Ok (fVar i) env st Q ↔ Q d st := by
  constructor
  · rintro ⟨b, s, e, q⟩
    unfold fVar at e
    rw [h] at e
    cases e
    exact q
  · exact fun q => ⟨d, st, by unfold fVar; rw [h], q⟩
@[simp] theorem Ok_var0 {d : D} {e : Env3} {Q : D → Sto → Prop} : Ok (fVar 0) (some d :: e) st Q ↔ Q d st := Ok_var rfl
@[simp] theorem Ok_varS {i : Nat} {o : Option D} {e : Env3} {Q : D → Sto → Prop} : Ok (fVar (i + 1)) (o :: e) st Q ↔ Ok (fVar i) e st Q := by
  constructor <;> (rintro ⟨b, s, h, q⟩; exact ⟨b, s, h, q⟩)
@[simp] theorem Ok_fU {o : F1 D D} {Q : D → Sto → Prop} : Ok (fU o fa) env st Q ↔ Ok fa env st fun x st1 => Wo o x st1 Q := by simp [fU]
@[simp] theorem Ok_fB {o : F1 (D × D) D} {Q : D → Sto → Prop} : Ok (fB o fa fb) env st Q ↔ Ok fa env st fun x st1 => Ok fb env st1 fun y st2 => Wo o (x, y) st2 Q := by simp [fB]
@[simp] theorem Ok_fArgs {o : F1 (List D) D} {Q : D → Sto → Prop} : Ok (fArgs o fr) env st Q ↔ Ok fr env st fun x st1 => Wo o x st1 Q := by simp [fArgs]
@[simp] theorem Ok_fNil {Q : List D → Sto → Prop} : Ok fNil env st Q ↔ Q [] st := Ok_ret
@[simp] theorem Ok_fCons {Q : List D → Sto → Prop} : Ok (fCons fa fr) env st Q ↔ Ok fa env st fun x st1 => Ok fr env st1 fun xs st2 => Q (x :: xs) st2 := by simp [fCons]
@[simp] theorem Ok_asB {d : D} {Q : Bool → Sto → Prop} : Ok (asB d) env st Q ↔ ∃ b, d = .bl b ∧ Q b st := by
  constructor
  · rintro ⟨b, s, e, q⟩
    unfold asB at e
    split at e
    · cases e
      exact ⟨_, rfl, q⟩
    · cases e
  · rintro ⟨b, rfl, q⟩
    exact ⟨b, st, rfl, q⟩
@[simp] theorem Ok_asI {d : D} {Q : Option Int → Sto → Prop} : Ok (asI d) env st Q ↔ ∃ i, d = .int i ∧ Q (some i) st := by
  constructor
  · rintro ⟨b, s, e, q⟩
    unfold asI at e
    split at e
    · cases e
      exact ⟨_, rfl, q⟩
    · cases e
  · rintro ⟨i, rfl, q⟩
    exact ⟨_, st, rfl, q⟩
@[simp] theorem Ok_fIf {ft : F3 Bool} {Q : D → Sto → Prop} : Ok (fIf ft fa fb) env st Q ↔ Ok ft env st fun b st1 => if b = true then Ok fa env st1 Q else Ok fb env st1 Q := by
  unfold fIf
  rw [Ok_bnd]
  constructor <;> (intro h; refine h.mono fun b s q => ?_; cases b <;> simpa using q)
@[simp] theorem Ok_fAnd {f g : F3 Bool} {Q : Bool → Sto → Prop} : Ok (fAnd f g) env st Q ↔ Ok f env st fun b st1 => if b = true then Ok g env st1 Q else Q false st1 := by
  unfold fAnd
  rw [Ok_bnd]
  constructor <;> (intro h; refine h.mono fun b s q => ?_; cases b <;> simpa using q)
@[simp] theorem Ok_fOr {f g : F3 Bool} {Q : Bool → Sto → Prop} : Ok (fOr f g) env st Q ↔ Ok f env st fun b st1 => if b = true then Q true st1 else Ok g env st1 Q := by
  unfold fOr
  rw [Ok_bnd]
  constructor <;> (intro h; refine h.mono fun b s q => ?_; cases b <;> simpa using q)
@[simp] theorem Ok_fNot {f : F3 Bool} {Q : Bool → Sto → Prop} : Ok (fNot f) env st Q ↔ Ok f env st fun b st1 => Q (!b) st1 := by simp [fNot]
@[simp] theorem Ok_fAndV {Q : D → Sto → Prop} : Ok (fAndV fa fb) env st Q ↔ Ok fa env st fun x st1 => ∃ b, x = .bl b ∧ if b = true then Ok fb env st1 Q else Q (.bl false) st1 := by
  unfold fAndV
  rw [Ok_bnd, Ok_bnd]
  constructor
  · intro h
    refine h.mono fun x s q => ?_
    rw [Ok_asB] at q
    obtain ⟨b, e, q⟩ := q
    exact ⟨b, e, by cases b <;> simpa using q⟩
  · intro h
    refine h.mono fun x s q => ?_
    obtain ⟨b, e, q⟩ := q
    rw [Ok_asB]
    exact ⟨b, e, by cases b <;> simpa using q⟩
@[simp] theorem Ok_fOrV {Q : D → Sto → Prop} : Ok (fOrV fa fb) env st Q ↔ Ok fa env st fun x st1 => ∃ b, x = .bl b ∧ if b = true then Q (.bl true) st1 else Ok fb env st1 Q := by
  unfold fOrV
  rw [Ok_bnd, Ok_bnd]
  constructor
  · intro h
    refine h.mono fun x s q => ?_
    rw [Ok_asB] at q
    obtain ⟨b, e, q⟩ := q
    exact ⟨b, e, by cases b <;> simpa using q⟩
  · intro h
    refine h.mono fun x s q => ?_
    obtain ⟨b, e, q⟩ := q
    rw [Ok_asB]
    exact ⟨b, e, by cases b <;> simpa using q⟩
@[simp] theorem Ok_fNotV {Q : D → Sto → Prop} : Ok (fNotV fa) env st Q ↔ Ok fa env st fun x st1 => ∃ b, x = .bl b ∧ Q (.bl (!b)) st1 := by simp [fNotV]
@[simp] theorem Ok_fChain {o1 o2 : F1 (D × D) D} {Q : D → Sto → Prop} : Ok (fChain o1 o2 fa fb fc) env st Q ↔ Ok fa env st fun x st1 => Ok fb env st1 fun y st2 => Wo o1 (x, y) st2 fun z st3 => ∃ b, z = .bl b ∧ if b = true then Ok fc env st3 (fun w st4 => Wo o2 (y, w) st4 Q) else Q (.bl false) st3 := by
  unfold fChain
  simp only [Ok_bnd, Ok_lift, Ok_asB]
  constructor
  · intro h
    refine h.mono fun x s q => q.mono fun y s2 q2 => ?_
    obtain ⟨z, s3, e, b, eb, q3⟩ := q2
    exact ⟨z, s3, e, b, eb, by cases b <;> simpa using q3⟩
  · intro h
    refine h.mono fun x s q => q.mono fun y s2 q2 => ?_
    obtain ⟨z, s3, e, b, eb, q3⟩ := q2
    exact ⟨z, s3, e, b, eb, by cases b <;> simpa using q3⟩
@[simp] theorem Ok_fCall {n : Nat} {d : FD} {Q : D → Sto → Prop} : Ok (fCall n d fr) env st Q ↔ Ok fr env st fun ds st1 => ds.length = n ∧ Wd d ds st1 Q := by
  unfold fCall
  rw [Ok_bnd]
  constructor
  · intro h
    refine h.mono fun ds s q => ?_
    obtain ⟨a, s2, e, q⟩ := q
    dsimp only at e
    split at e
    · rename_i hl
      exact ⟨hl, a, s2, e, q⟩
    · cases e
  · intro h
    refine h.mono fun ds s q => ?_
    obtain ⟨hl, a, s2, e, q⟩ := q
    exact ⟨a, s2, by dsimp only; rw [if_pos hl]; exact e, q⟩
@[simp] theorem Ok_fCallK {is : List Nat} {d : FD} {Q : D → Sto → Prop} : Ok (fCallK is d fr) env st Q ↔ Ok fr env st fun ds st1 => ds.length = is.length ∧ ∃ es, perm is ds = some es ∧ Wd d es st1 Q := by
  unfold fCallK
  rw [Ok_bnd]
  constructor
  · intro h
    refine h.mono fun ds s q => ?_
    obtain ⟨a, s2, e, q⟩ := q
    dsimp only at e
    split at e
    · rename_i hl
      split at e
      · rename_i es he
        exact ⟨hl, es, he, a, s2, e, q⟩
      · cases e
    · cases e
  · intro h
    refine h.mono fun ds s q => ?_
    obtain ⟨hl, es, he, a, s2, e, q⟩ := q
    exact ⟨a, s2, by dsimp only; rw [if_pos hl, he]; exact e, q⟩
@[simp] theorem Ok_fMeth {o : F1 (D × List D) D} {Q : D → Sto → Prop} : Ok (fMeth o fa fr) env st Q ↔ Ok fa env st fun x st1 => (seqL st1 x).isSome = true ∧ Ok fr env st1 fun ys st2 => Wo o (x, ys) st2 Q := by
  unfold fMeth
  rw [Ok_bnd]
  constructor
  · intro h
    refine h.mono fun x s q => ?_
    obtain ⟨a, s2, e, q⟩ := q
    dsimp only at e
    split at e
    · rename_i z hz
      refine ⟨by rw [hz]; rfl, ?_⟩
      have := Ok_bnd.mp (⟨a, s2, e, q⟩ : Ok (bnd fr fun ys => lift o (x, ys)) env s Q)
      simpa using this
    · cases e
  · intro h
    refine h.mono fun x s q => ?_
    obtain ⟨hs, q⟩ := q
    obtain ⟨z, hz⟩ := Option.isSome_iff_exists.mp hs
    have : Ok (bnd fr fun ys => lift o (x, ys)) env s Q := by simpa using q
    obtain ⟨a, s2, e, q⟩ := this
    exact ⟨a, s2, by dsimp only; rw [hz]; exact e, q⟩
@[simp] theorem Ok_fSl {fl fh : F3 (Option Int)} {Q : D → Sto → Prop} : Ok (fSl fa fl fh) env st Q ↔ Ok fa env st fun x st1 => Ok fl env st1 fun l st2 => Ok fh env st2 fun h st3 => Wo oSl (x, l, h) st3 Q := by simp [fSl]
@[simp] theorem Ok_fDget1 {Q : D → Sto → Prop} : Ok (fDget1 fa fb) env st Q ↔ Ok fa env st fun x st1 => isD3 st1 x = true ∧ Ok fb env st1 fun y st2 => Wo oDget1 (x, y) st2 Q := by
  unfold fDget1
  rw [Ok_bnd]
  constructor
  · intro h
    refine h.mono fun x s q => ?_
    obtain ⟨a, s2, e, q⟩ := q
    dsimp only at e
    split at e
    · rename_i hz
      refine ⟨hz, ?_⟩
      have := Ok_bnd.mp (⟨a, s2, e, q⟩ : Ok (bnd fb fun y => lift oDget1 (x, y)) env s Q)
      simpa using this
    · cases e
  · intro h
    refine h.mono fun x s q => ?_
    obtain ⟨hs, q⟩ := q
    have : Ok (bnd fb fun y => lift oDget1 (x, y)) env s Q := by simpa using q
    obtain ⟨a, s2, e, q⟩ := this
    exact ⟨a, s2, by dsimp only; rw [if_pos hs]; exact e, q⟩
@[simp] theorem Ok_fPairNil {Q : List (D × D) → Sto → Prop} : Ok fPairNil env st Q ↔ Q [] st := Ok_ret
@[simp] theorem Ok_fPair {fp : F3 (List (D × D))} {Q : List (D × D) → Sto → Prop} : Ok (fPair fa fb fp) env st Q ↔ Ok fa env st fun x st1 => Ok fb env st1 fun y st2 => Ok fp env st2 fun r st3 => Q ((x, y) :: r) st3 := by simp [fPair]
@[simp] theorem Ok_fDisp {fp : F3 (List (D × D))} {Q : D → Sto → Prop} : Ok (fDisp fp) env st Q ↔ Ok fp env (st ++ [.dK []]) fun ps st1 => st1[st.length]? = some (.dK []) ∧ ∃ kvs, keysP ps = some kvs ∧ kvs.length ≤ 15 ∧ Q (.loc st.length) (st1.set st.length (.dK (mergeG [] kvs))) := by
  constructor
  · rintro ⟨a, s, e, q⟩
    unfold fDisp at e
    split at e
    · rename_i ps s1 e1
      refine ⟨ps, s1, e1, ?_⟩
      split at e
      · rename_i e2
        split at e
        · rename_i kvs e3
          split at e
          · rename_i hl
            cases e
            exact ⟨e2, kvs, e3, hl, q⟩
          · cases e
        · cases e
      · cases e
    · cases e
  · rintro ⟨ps, s1, e1, e2, kvs, e3, hl, q⟩
    refine ⟨_, _, ?_, q⟩
    unfold fDisp
    rw [e1]
    dsimp only
    rw [e2]
    dsimp only
    rw [e3]
    dsimp only
    rw [if_pos hl]
@[simp] theorem Ok_fNewK {Q : D → Sto → Prop} : Ok fNewK env st Q ↔ Q (.loc st.length) (st ++ [.dK []]) := by
  constructor
  · rintro ⟨a, s, e, q⟩
    cases e
    exact q
  · exact fun q => ⟨_, _, rfl, q⟩
@[simp] theorem Ok_fNewT {Q : D → Sto → Prop} : Ok fNewT env st Q ↔ Q (.loc st.length) (st ++ [.dT []]) := by
  constructor
  · rintro ⟨a, s, e, q⟩
    cases e
    exact q
  · exact fun q => ⟨_, _, rfl, q⟩

/-! ### statements -/
variable {f1 f2 : FS} {Q : Fl → Env3 → Sto → Prop}
/-- behind a statement: on, or out -/
def thenS (g : FS) (Q : Fl → Env3 → Sto → Prop) : Fl → Env3 → Sto → Prop := fun r env st => match r with
  | .nx => Ws g env st Q
  | r => Q r env st
@[simp] theorem thenS_nx {g : FS} : thenS g Q .nx env st ↔ Ws g env st Q := Iff.rfl
@[simp] theorem thenS_rt {g : FS} {d : D} : thenS g Q (.rt d) env st ↔ Q (.rt d) env st := Iff.rfl
@[simp] theorem thenS_bk {g : FS} : thenS g Q .bk env st ↔ Q .bk env st := Iff.rfl
@[simp] theorem thenS_ct {g : FS} : thenS g Q .ct env st ↔ Q .ct env st := Iff.rfl
@[simp] theorem thenS_er {g : FS} {c : Nat} : thenS g Q (.er c) env st ↔ Q (.er c) env st := Iff.rfl
@[simp] theorem Ws_seq : Ws (fSeq f1 f2) env st Q ↔ Ws f1 env st (thenS f2 Q) := by
  constructor
  · rintro ⟨r, v, s, e, q⟩
    unfold fSeq at e
    split at e
    · rename_i v1 s1 e1
      exact ⟨_, v1, s1, e1, r, v, s, e, q⟩
    · rename_i hne
      refine ⟨r, v, s, e, ?_⟩
      cases r <;> first | exact q | exact absurd e (hne v s)
  · rintro ⟨r, v, s, e, q⟩
    cases r with
    | nx =>
      obtain ⟨r2, v2, s2, e2, q2⟩ := q
      exact ⟨r2, v2, s2, by unfold fSeq; rw [e]; exact e2, q2⟩
    | rt d => exact ⟨_, v, s, by unfold fSeq; rw [e], q⟩
    | bk => exact ⟨_, v, s, by unfold fSeq; rw [e], q⟩
    | ct => exact ⟨_, v, s, by unfold fSeq; rw [e], q⟩
    | er c => exact ⟨_, v, s, by unfold fSeq; rw [e], q⟩
@[simp] theorem Ws_nop : Ws fNop env st Q ↔ Q .nx env st := by
  constructor
  · rintro ⟨r, v, s, e, q⟩
    cases e
    exact q
  · exact fun q => ⟨_, _, _, rfl, q⟩
@[simp] theorem Ws_now {r : Fl} : Ws (fun env st => some (r, env, st)) env st Q ↔ Q r env st := by
  constructor
  · rintro ⟨r, v, s, e, q⟩
    cases e
    exact q
  · exact fun q => ⟨_, _, _, rfl, q⟩
theorem Ws_eff {k : α → FS} (h : Ok f env st fun a st1 => Ws (k a) env st1 Q) : Ws (eff f k) env st Q := by
  obtain ⟨a, s1, e1, r, v, s, e, q⟩ := h
  exact ⟨r, v, s, by unfold eff; rw [e1]; exact e, q⟩
theorem Ws_ret (h : Ok fa env st fun d st1 => Q (.rt d) env st1) : Ws (fRet fa) env st Q := Ws_eff (h.mono fun d s q => Ws_now.mpr q)
theorem Ws_drop (h : Ok fa env st fun _ st1 => Q .nx env st1) : Ws (fDrop fa) env st Q := Ws_eff (h.mono fun d s q => Ws_now.mpr q)
theorem Ws_if {ft : F3 Bool} (h : Ok ft env st fun b st1 => if b = true then Ws f1 env st1 Q else Ws f2 env st1 Q) : Ws (fIfS ft f1 f2) env st Q := Ws_eff (h.mono fun b s q => by cases b <;> simpa using q)
theorem Ws_asg {gt : G3} (h : Ok fa env st fun d st1 => ∃ env2 st2, gt d env st1 = some (env2, st2) ∧ Q .nx env2 st2) : Ws (fAsg fa gt) env st Q := Ws_eff (h.mono fun d s q => by
  obtain ⟨v, s2, e, q⟩ := q
  exact ⟨.nx, v, s2, by dsimp only; rw [e], q⟩)
theorem Ws_set {i : Nat} (h : Ok fa env st fun d st1 => Q .nx (env.set i (some d)) st1) : Ws (fAsg fa (gVar i)) env st Q := Ws_asg (h.mono fun d s q => ⟨_, _, rfl, q⟩)
theorem Ws_par {is : List Nat} (h : Ok fr env st fun ds st1 => ds.length = is.length ∧ Q .nx ((is.zip ds).foldl (fun e p => e.set p.1 (some p.2)) env) st1) : Ws (fPar is fr) env st Q := Ws_eff (h.mono fun ds s q => ⟨_, _, _, by dsimp only; rw [if_pos q.1], q.2⟩)
theorem Ws_aug {o : Int → Int → Int} {i : Nat} {k : Int} (he : env[i]? = some (some (.int k))) (h : Ok fa env st fun d st1 => ∃ j, d = .int j ∧ Q .nx (env.set i (some (.int (o k j)))) st1) : Ws (fAug o i fa) env st Q := by
  have : Ws (eff fa (fun d env st => match d with
    | .int j => some (.nx, env.set i (some (.int (o k j))), st)
    | _ => none)) env st Q := Ws_eff (h.mono fun d s q => by
    obtain ⟨j, rfl, q⟩ := q
    exact ⟨_, _, _, rfl, q⟩)
  obtain ⟨r, v, s, e, q⟩ := this
  exact ⟨r, v, s, by unfold fAug; rw [he]; exact e, q⟩
theorem Ws_sub {fo fi : F3 D} (h : Ok fa env st fun d st1 => Ok fo env st1 fun o st2 => Ok fi env st2 fun i st3 => ∃ st4, oSet st3 o i d = some st4 ∧ Q .nx env st4) : Ws (fAsg fa (gSub3 fo fi)) env st Q := Ws_asg (h.mono fun d s q => by
  obtain ⟨o, s1, e1, i, s2, e2, s3, e3, q⟩ := q
  exact ⟨env, s3, by unfold gSub3; rw [e1]; dsimp only; rw [e2]; dsimp only; rw [e3], q⟩)
theorem Ws_augS {o : Int → Int → Int} {fo fi : F3 D} (h : Ok fo env st fun x st1 => Ok fi env st1 fun y st2 => ∃ i ds k, y = .int i ∧ 0 ≤ i ∧ i < 2 ^ 63 ∧ seqL st2 x = some ds ∧ ds[i.toNat]? = some (.int k) ∧ Ok fa env st2 fun d st3 => ∃ j st4, d = .int j ∧ oSet st3 x y (.int (o k j)) = some st4 ∧ Q .nx env st4) : Ws (fAugS o fo fi fa) env st Q := by
  refine Ws_eff (h.mono fun x s q => Ws_eff (q.mono fun y s2 q2 => ?_))
  obtain ⟨i, ds, k, rfl, h0, h1, e1, e2, q3⟩ := q2
  obtain ⟨d, s3, e3, j, s4, rfl, e4, q⟩ := q3
  refine ⟨.nx, env, s4, ?_, q⟩
  dsimp only
  rw [if_pos ⟨h0, h1⟩, e1]
  dsimp only
  rw [e2]
  dsimp only
  unfold eff
  rw [e3]
  dsimp only
  rw [e4]

/-! ### loops -/
theorem loopF_ok {src : Src} {gt : G3} {fb : FS} (m : Nat) (Inv : Nat → Env3 → Sto → Prop)
    (hstep : ∀ i env st, i < m → Inv i env st → ∃ d env1 st1, src st i = some (some d) ∧ gt d env st = some (env1, st1) ∧ Ws fb env1 st1 fun r env2 st2 => match r with
      | .nx => Inv (i + 1) env2 st2
      | .ct => Inv (i + 1) env2 st2
      | .bk => Q .nx env2 st2
      | r => Q r env2 st2)
    (hend : ∀ env st, Inv m env st → src st m = some none ∧ Q .nx env st) : ∀ (n i : Nat) (env : Env3) (st : Sto), i ≤ m → m - i < n → Inv i env st → Ws (loopF src gt fb n i) env st Q
  | 0, i, env, st, _, h, _ => by omega
  | n + 1, i, env, st, hi, hn, I => by
    by_cases e : i = m
    · subst e
      obtain ⟨e1, q⟩ := hend env st I
      exact ⟨_, _, _, by unfold loopF; rw [e1], q⟩
    · have hlt : i < m := by omega
      obtain ⟨d, env1, st1, e1, e2, r, env2, st2, e3, q⟩ := hstep i env st hlt I
      cases r with
      | nx =>
        obtain ⟨r, v, s, e4, q4⟩ := loopF_ok m Inv hstep hend n (i + 1) env2 st2 (by omega) (by omega) q
        exact ⟨r, v, s, by unfold loopF; rw [e1]; dsimp only; rw [e2]; dsimp only; rw [e3]; exact e4, q4⟩
      | ct =>
        obtain ⟨r, v, s, e4, q4⟩ := loopF_ok m Inv hstep hend n (i + 1) env2 st2 (by omega) (by omega) q
        exact ⟨r, v, s, by unfold loopF; rw [e1]; dsimp only; rw [e2]; dsimp only; rw [e3]; exact e4, q4⟩
      | bk => exact ⟨_, _, _, by unfold loopF; rw [e1]; dsimp only; rw [e2]; dsimp only; rw [e3], q⟩
      | rt d => exact ⟨_, _, _, by unfold loopF; rw [e1]; dsimp only; rw [e2]; dsimp only; rw [e3], q⟩
      | er c => exact ⟨_, _, _, by unfold loopF; rw [e1]; dsimp only; rw [e2]; dsimp only; rw [e3], q⟩
/-- for: m turns -/
theorem Ws_for {n : Nat} {fi : F3 Src} {gt : G3} {fb : FS} (h : Ok fi env st fun src st0 => ∃ (m : Nat) (Inv : Nat → Env3 → Sto → Prop), m < n ∧ Inv 0 env st0 ∧ (∀ i env st, i < m → Inv i env st → ∃ d env1 st1, src st i = some (some d) ∧ gt d env st = some (env1, st1) ∧ Ws fb env1 st1 fun r env2 st2 => match r with
      | .nx => Inv (i + 1) env2 st2
      | .ct => Inv (i + 1) env2 st2
      | .bk => Q .nx env2 st2
      | r => Q r env2 st2) ∧ ∀ env st, Inv m env st → src st m = some none ∧ Q .nx env st) : Ws (fFor n fi gt fb) env st Q :=
  Ws_eff (h.mono fun src s q => by
    obtain ⟨m, Inv, hn, h0, h1, h2⟩ := q
    exact loopF_ok m Inv h1 h2 n 0 env s (Nat.zero_le _) (by omega) h0)
/-- while: by a measure -/
theorem Ws_while {fc : F3 Bool} {fb : FS} (Inv : Nat → Env3 → Sto → Prop)
    (hstep : ∀ k env st, Inv k env st → Ok fc env st fun b st1 => if b = true then Ws fb env st1 (fun r env2 st2 => match r with
      | .nx => ∃ j, j < k ∧ Inv j env2 st2
      | .ct => ∃ j, j < k ∧ Inv j env2 st2
      | .bk => Q .nx env2 st2
      | r => Q r env2 st2) else Q .nx env st1) : ∀ (n k : Nat) (env : Env3) (st : Sto), k < n → Inv k env st → Ws (fWhile fc fb n) env st Q
  | 0, k, env, st, h, _ => by omega
  | n + 1, k, env, st, h, I => by
    obtain ⟨b, s1, e1, q⟩ := hstep k env st I
    cases b with
    | false => exact ⟨_, _, _, by unfold fWhile; rw [e1], by simpa using q⟩
    | true =>
      simp only [if_true] at q
      obtain ⟨r, v2, s2, e2, q⟩ := q
      cases r with
      | nx =>
        obtain ⟨j, hj, q⟩ := q
        obtain ⟨r, v, s, e4, q4⟩ := Ws_while Inv hstep n j v2 s2 (by omega) q
        exact ⟨r, v, s, by unfold fWhile; rw [e1]; dsimp only; rw [e2]; exact e4, q4⟩
      | ct =>
        obtain ⟨j, hj, q⟩ := q
        obtain ⟨r, v, s, e4, q4⟩ := Ws_while Inv hstep n j v2 s2 (by omega) q
        exact ⟨r, v, s, by unfold fWhile; rw [e1]; dsimp only; rw [e2]; exact e4, q4⟩
      | bk => exact ⟨_, _, _, by unfold fWhile; rw [e1]; dsimp only; rw [e2], q⟩
      | rt d => exact ⟨_, _, _, by unfold fWhile; rw [e1]; dsimp only; rw [e2], q⟩
      | er c => exact ⟨_, _, _, by unfold fWhile; rw [e1]; dsimp only; rw [e2], q⟩

/-! ### comprehensions -/
theorem loopC_ok {src : Src} {gt : G3} {ft : F3 Bool} {fe : F3 D} {env0 : Env3} {D0 : Nat} {R : Sto → Prop} (m : Nat) (Inv : Nat → List D → Sto → Prop)
    (hstep : ∀ i acc st, i < m → Inv i acc st → st[D0]? = some (.lst acc) → ∃ d env1 st1, src st i = some (some d) ∧ gt d env0 st = some (env1, st1) ∧ Ok ft env1 st1 fun b st2 => if b = true then Ok fe env1 st2 (fun y st3 => st3[D0]? = some (.lst acc) ∧ acc.length < sizeLine ∧ Inv (i + 1) (acc ++ [y]) (st3.set D0 (.lst (acc ++ [y])))) else st2[D0]? = some (.lst acc) ∧ Inv (i + 1) acc st2)
    (hend : ∀ acc st, Inv m acc st → st[D0]? = some (.lst acc) → src st m = some none ∧ R st) : ∀ (n i : Nat) (acc : List D) (st : Sto), i ≤ m → m - i < n → Inv i acc st → st[D0]? = some (.lst acc) → ∃ st', loopC src gt ft fe env0 D0 n i st = some st' ∧ R st'
  | 0, i, acc, st, _, h, _, _ => by omega
  | n + 1, i, acc, st, hi, hn, I, hD => by
    by_cases e : i = m
    · subst e
      obtain ⟨e1, q⟩ := hend acc st I hD
      exact ⟨st, by unfold loopC; rw [e1], q⟩
    · have hlt : i < m := by omega
      obtain ⟨d, env1, st1, e1, e2, b, st2, e3, q⟩ := hstep i acc st hlt I hD
      cases b with
      | false =>
        simp only [Bool.false_eq_true, if_false] at q
        obtain ⟨s, e4, q4⟩ := loopC_ok m Inv hstep hend n (i + 1) acc st2 (by omega) (by omega) q.2 q.1
        exact ⟨s, by unfold loopC; rw [e1]; dsimp only; rw [e2]; dsimp only; rw [e3]; exact e4, q4⟩
      | true =>
        simp only [if_true] at q
        obtain ⟨y, st3, e4, q1, q2, q3⟩ := q
        have hl : D0 < st3.length := (List.getElem?_eq_some_iff.mp q1).1
        obtain ⟨s, e5, q5⟩ := loopC_ok m Inv hstep hend n (i + 1) (acc ++ [y]) (st3.set D0 (.lst (acc ++ [y]))) (by omega) (by omega) q3 (List.getElem?_set_self hl)
        exact ⟨s, by unfold loopC; rw [e1]; dsimp only; rw [e2]; dsimp only; rw [e3]; dsimp only; rw [e4]; dsimp only; rw [q1]; dsimp only; rw [if_pos q2]; exact e5, q5⟩
theorem Ok_lc {n : Nat} {vs : List Nat} {fi : F3 Src} {gt : G3} {ft : F3 Bool} {fe : F3 D} {Q : D → Sto → Prop}
    (h : Ok fi env st fun src st0 => ∃ (m : Nat) (Inv : Nat → List D → Sto → Prop), m < n ∧ Inv 0 [] (st0 ++ [.lst []]) ∧
      (∀ i acc st, i < m → Inv i acc st → st[st0.length]? = some (.lst acc) → ∃ d env1 st1, src st i = some (some d) ∧ gt d (wipeE env vs) st = some (env1, st1) ∧ Ok ft env1 st1 fun b st2 => if b = true then Ok fe env1 st2 (fun y st3 => st3[st0.length]? = some (.lst acc) ∧ acc.length < sizeLine ∧ Inv (i + 1) (acc ++ [y]) (st3.set st0.length (.lst (acc ++ [y])))) else st2[st0.length]? = some (.lst acc) ∧ Inv (i + 1) acc st2) ∧
      ∀ acc st, Inv m acc st → st[st0.length]? = some (.lst acc) → src st m = some none ∧ Q (.loc st0.length) st) : Ok (fLc n vs fi gt ft fe) env st Q := by
  unfold fLc
  rw [Ok_bnd]
  refine h.mono fun src st0 q => ?_
  obtain ⟨m, Inv, hn, h0, h1, h2⟩ := q
  obtain ⟨s, e, q⟩ := loopC_ok (R := fun s => Q (.loc st0.length) s) m Inv h1 h2 n 0 [] _ (Nat.zero_le _) (by omega) h0 (by simp)
  exact ⟨_, s, by dsimp only; rw [e], q⟩
/-- a def's call, by its body -/
theorem Wd_of {n : Nat} {fs : FS} {ds : List D} {Q : D → Sto → Prop} (h : Ws fs (ds.map some ++ List.replicate (n - ds.length) none) st fun r _ st' => match r with
    | .nx => Q .non st'
    | .rt d => Q d st'
    | _ => False) : Wd (fdOf n fs) ds st Q := by
  obtain ⟨r, v, s, e, q⟩ := h
  cases r with
  | nx => exact ⟨_, s, by unfold fdOf; rw [e], q⟩
  | rt d => exact ⟨_, s, by unfold fdOf; rw [e], q⟩
  | bk => exact q.elim
  | ct => exact q.elim
  | er c => exact q.elim
end
end S3

set_option maxHeartbeats 4000000
/-! S4B: the laws' draws. -/
namespace S3
open PySem PyProof.Rows L2
abbrev loopN : Nat := 1000000
def fr_begun : FS := (fSeq (fAsg (fLc loopN [2] (fOverL (fVar 0)) (gVar 2) (bnd (fB oGe (fArgs oAbs (fCons (fVar 2) fNil)) (fB oPow (ret3 (.int 10)) (ret3 (.int 18)))) asB) (fB oSub (fArgs oAbs (fCons (fVar 2) fNil)) (fB oPow (ret3 (.int 10)) (ret3 (.int 18))))) (gVar 1))
    (fRet (fDisp (fPair (ret3 (.str "wide")) (fVar 1) (fPair (ret3 (.str "cells")) (fLc loopN [2] (fOverL (fVar 0)) (gVar 2) (ret3 true) (fB oMod (fArgs oInt1 (fCons (fArgs oAbs (fCons (fVar 2) fNil)) fNil)) (ret3 (.int 2147483629)))) (fPair (ret3 (.str "rest")) (ret3 (.int 0)) (fPair (ret3 (.str "turn")) (ret3 (.int 0)) fPairNil)))))))
def dr_begun : FD := fdOf 3 fr_begun
def fr_mixed : FS := (fSeq (fPar [1, 2] (fCons (fB oAdd (fB oDget (fVar 0) (ret3 (.str "turn"))) (ret3 (.int 1))) (fCons (ret3 (.int 0)) fNil)))
    (fSeq (fAsg (fVar 1) (gSub3 (fVar 0) (ret3 (.str "turn"))))
    (fSeq (fFor loopN (fOverL (fArgs oLst (fCons (ret3 (.int 2147483647)) (fCons (ret3 (.int 2147483629)) (fCons (ret3 (.int 2147483587)) (fCons (ret3 (.int 2147483579)) fNil)))))) (gVar 3)
    (fSeq (fAsg (fB oAdd (fB oMul (ret3 (.int 48271)) (fVar 1)) (fB oDiv (fVar 3) (ret3 (.int 37)))) (gVar 4))
    (fSeq (fFor loopN (fOverL (fB oDget (fVar 0) (ret3 (.str "cells")))) (gVar 5)
    (fAsg (fB oMod (fArgs oInt1 (fCons (fB oAdd (fB oAdd (fB oMul (fVar 4) (ret3 (.int 69621))) (fVar 5)) (fVar 1)) fNil)) (fVar 3)) (gVar 4)))
    (fAsg (fB oAdd (fB oMul (fVar 2) (ret3 (.int 2147483647))) (fB oMod (fArgs oInt1 (fCons (fB oPow (fVar 4) (ret3 (.int 5))) fNil)) (fVar 3))) (gVar 2)))))
    (fRet (fVar 2)))))
def dr_mixed : FD := fdOf 6 fr_mixed
def fr_take : FS := (fSeq (fIfS (bnd (fB oEq (fB oDget (fVar 0) (ret3 (.str "rest"))) (ret3 (.int 0))) asB)
    (fAsg (fIf (bnd (fB oNe (fB oDget (fVar 0) (ret3 (.str "wide"))) (fArgs oLst fNil)) asB) (fMeth oPopAt (fB oDget (fVar 0) (ret3 (.str "wide"))) (fCons (ret3 (.int 0)) fNil)) (fCall 1 dr_mixed (fCons (fVar 0) fNil))) (gSub3 (fVar 0) (ret3 (.str "rest"))))
    fNop)
    (fSeq (fAsg (fB oMod (fArgs oInt1 (fCons (fB oDget (fVar 0) (ret3 (.str "rest"))) fNil)) (fVar 1)) (gVar 2))
    (fSeq (fAsg (fB oDiv (fB oDget (fVar 0) (ret3 (.str "rest"))) (fVar 1)) (gSub3 (fVar 0) (ret3 (.str "rest"))))
    (fRet (fVar 2)))))
def dr_take : FD := fdOf 3 fr_take
def fr_pick : FS := (fRet (fB oIx (fVar 1) (fCall 2 dr_take (fCons (fVar 0) (fCons (fArgs oLen (fCons (fVar 1) fNil)) fNil)))))
def dr_pick : FD := fdOf 2 fr_pick
def fr_shuffled : FS := (fSeq (fPar [2, 3] (fCons (fArgs oList (fCons (fVar 1) fNil)) (fCons (fArgs oLst fNil) fNil)))
    (fSeq (fWhile (bnd (fB oNe (fVar 2) (fArgs oLst fNil)) asB)
    (fDrop (fMeth oApp (fVar 3) (fCons (fMeth oPopAt (fVar 2) (fCons (fCall 2 dr_take (fCons (fVar 0) (fCons (fArgs oLen (fCons (fVar 2) fNil)) fNil))) fNil)) fNil))) loopN)
    (fRet (fVar 3))))
def dr_shuffled : FD := fdOf 4 fr_shuffled

/-! ### the store -/
/-- all but p and w stays -/
structure Frm (p w : Nat) (st st' : Sto) : Prop where
  len : st.length ≤ st'.length
  at_ : ∀ n, n < st.length → n ≠ p → n ≠ w → st'[n]? = st[n]?
theorem Frm.refl {p w : Nat} (st : Sto) : Frm p w st st := ⟨Nat.le_refl _, fun _ _ _ _ => rfl⟩
theorem Frm.trans {p w : Nat} {a b c : Sto} (h : Frm p w a b) (k : Frm p w b c) : Frm p w a c := ⟨Nat.le_trans h.len k.len, fun n hn h1 h2 => (k.at_ n (Nat.lt_of_lt_of_le hn h.len) h1 h2).trans (h.at_ n hn h1 h2)⟩
theorem Frm.app {p w : Nat} {st : Sto} (l : Sto) : Frm p w st (st ++ l) := ⟨by simp, fun n hn _ _ => List.getElem?_append_left hn⟩
theorem Frm.set {p w n : Nat} {st : Sto} {o : O} (h : n = p ∨ n = w) : Frm p w st (st.set n o) := ⟨by simp, fun m hm h1 h2 => List.getElem?_set_ne (by omega)⟩
theorem Frm.get {p w n : Nat} {st st' : Sto} {o : O} (h : Frm p w st st') (e : st[n]? = some o) (h1 : n ≠ p) (h2 : n ≠ w) : st'[n]? = some o := (h.at_ n (List.getElem?_eq_some_iff.mp e).1 h1 h2).trans e
def dkv (w c : Nat) (r t : Int) : List (Key × D) := [(.inr "wide", .loc w), (.inr "cells", .loc c), (.inr "rest", .int r), (.inr "turn", .int t)]
@[simp] theorem dkv_wide {w c : Nat} {r t : Int} : valG (dkv w c r t) (.inr "wide") = some (.loc w) := rfl
@[simp] theorem dkv_cells {w c : Nat} {r t : Int} : valG (dkv w c r t) (.inr "cells") = some (.loc c) := rfl
@[simp] theorem dkv_rest {w c : Nat} {r t : Int} : valG (dkv w c r t) (.inr "rest") = some (.int r) := rfl
@[simp] theorem dkv_turn {w c : Nat} {r t : Int} : valG (dkv w c r t) (.inr "turn") = some (.int t) := rfl
@[simp] theorem dkv_putR {w c : Nat} {r t x : Int} : putG (dkv w c r t) (.inr "rest") (.int x) = dkv w c x t := rfl
@[simp] theorem dkv_putT {w c : Nat} {r t x : Int} : putG (dkv w c r t) (.inr "turn") (.int x) = dkv w c r x := rfl
@[simp] theorem dkv_len {w c : Nat} {r t : Int} : (dkv w c r t).length = 4 := rfl
structure DrwX (st : Sto) (p w c : Nat) (r t : Int) (ws cs : List Int) (T : Nat) : Prop where
  hp : st[p]? = some (.dK (dkv w c r t))
  hw : st[w]? = some (.lst (ws.map D.int))
  hc : st[c]? = some (.lst (cs.map D.int))
  pw : p ≠ w
  pc : p ≠ c
  wc : w ≠ c
  t0 : 0 ≤ t
  tT : t ≤ T
  wl : ws.length ≤ 63
  cl : cs.length ≤ 63
def Drw (st : Sto) (p w c T : Nat) : Prop := ∃ r t ws cs, DrwX st p w c r t ws cs T
theorem Drw.mono {st : Sto} {p w c T T' : Nat} (h : Drw st p w c T) (k : T ≤ T') : Drw st p w c T' := by
  obtain ⟨r, t, ws, cs, x⟩ := h
  exact ⟨r, t, ws, cs, x.hp, x.hw, x.hc, x.pw, x.pc, x.wc, x.t0, by have := x.tT; omega, x.wl, x.cl⟩
/-- it stays where none of its places is written -/
theorem Drw.app {st : Sto} {p w c T : Nat} (h : Drw st p w c T) (l : Sto) : Drw (st ++ l) p w c T := by
  obtain ⟨r, t, ws, cs, x⟩ := h
  have k : ∀ {n o}, st[n]? = some o → (st ++ l)[n]? = some o := fun e => by rw [List.getElem?_append_left (List.getElem?_eq_some_iff.mp e).1]; exact e
  exact ⟨r, t, ws, cs, k x.hp, k x.hw, k x.hc, x.pw, x.pc, x.wc, x.t0, x.tT, x.wl, x.cl⟩
theorem Drw.set {st : Sto} {p w c T n : Nat} {o : O} (h : Drw st p w c T) (h1 : n ≠ p) (h2 : n ≠ w) (h3 : n ≠ c) : Drw (st.set n o) p w c T := by
  obtain ⟨r, t, ws, cs, x⟩ := h
  exact ⟨r, t, ws, cs, by rw [List.getElem?_set_ne h1]; exact x.hp, by rw [List.getElem?_set_ne h2]; exact x.hw, by rw [List.getElem?_set_ne h3]; exact x.hc, x.pw, x.pc, x.wc, x.t0, x.tT, x.wl, x.cl⟩
theorem app_get {st : Sto} {n : Nat} {o : O} {l : Sto} (h : st[n]? = some o) : (st ++ l)[n]? = some o := by
  rw [List.getElem?_append_left (List.getElem?_eq_some_iff.mp h).1]
  exact h
theorem app_new {st : Sto} {o : O} : (st ++ [o])[st.length]? = some o := by simp
/-! ### single operations, at known values -/
section
variable {st : Sto} {i j : Int} {Q : D → Sto → Prop}
@[simp] theorem Wo_add : Wo oAdd (.int i, .int j) st Q ↔ Q (.int (i + j)) st := ⟨fun ⟨_, _, e, q⟩ => by cases e; exact q, fun q => ⟨_, _, rfl, q⟩⟩
@[simp] theorem Wo_sub : Wo oSub (.int i, .int j) st Q ↔ Q (.int (i - j)) st := ⟨fun ⟨_, _, e, q⟩ => by cases e; exact q, fun q => ⟨_, _, rfl, q⟩⟩
theorem Wo_oInt {C : Int → Int → Bool} {f : Int → Int → D} : Wo (oInt C f) (.int i, .int j) st Q ↔ C i j = true ∧ Q (f i j) st := by
  constructor
  · rintro ⟨a, s, e, q⟩
    unfold oInt at e
    dsimp only at e
    split at e
    · rename_i h
      cases e
      exact ⟨h, q⟩
    · cases e
  · rintro ⟨h, q⟩
    exact ⟨_, _, by unfold oInt; dsimp only; rw [if_pos h], q⟩
@[simp] theorem Wo_mul : Wo oMul (.int i, .int j) st Q ↔ ((-(2 ^ 64) < i ∧ i < 2 ^ 64) ∨ (-(2 ^ 64) < j ∧ j < 2 ^ 64)) ∧ Q (.int (i * j)) st := by
  unfold oMul
  rw [Wo_oInt]
  unfold cMul
  rw [decide_eq_true_eq]
@[simp] theorem Wo_div : Wo oDiv (.int i, .int j) st Q ↔ (0 < j ∧ j < 1073741824) ∧ Q (.int (i / j)) st := by
  unfold oDiv
  rw [Wo_oInt]
  unfold cDiv
  rw [decide_eq_true_eq]
@[simp] theorem Wo_mod : Wo oMod (.int i, .int j) st Q ↔ 0 < j ∧ Q (.int (i % j)) st := by
  unfold oMod
  rw [Wo_oInt]
  unfold cMod
  rw [decide_eq_true_eq]
@[simp] theorem Wo_pow : Wo oPow (.int i, .int j) st Q ↔ (0 ≤ j ∧ j ≤ 1000000 ∧ i.natAbs < 2 ^ 64) ∧ Q (.int (i ^ j.toNat)) st := by
  unfold oPow
  rw [Wo_oInt]
  unfold cPow
  rw [decide_eq_true_eq]
@[simp] theorem Wo_ge : Wo oGe (.int i, .int j) st Q ↔ Q (.bl (decide (j ≤ i))) st := by
  unfold oGe
  rw [Wo_oInt]
  simp [yes2]
@[simp] theorem Wo_gt : Wo oGt (.int i, .int j) st Q ↔ Q (.bl (decide (j < i))) st := by
  unfold oGt
  rw [Wo_oInt]
  simp [yes2]
@[simp] theorem Wo_lt : Wo oLt (.int i, .int j) st Q ↔ Q (.bl (decide (i < j))) st := ⟨fun ⟨_, _, e, q⟩ => by cases e; exact q, fun q => ⟨_, _, rfl, q⟩⟩
@[simp] theorem Wo_le : Wo oLe (.int i, .int j) st Q ↔ Q (.bl (decide (i ≤ j))) st := ⟨fun ⟨_, _, e, q⟩ => by cases e; exact q, fun q => ⟨_, _, rfl, q⟩⟩
@[simp] theorem Wo_eqI : Wo oEq (.int i, .int j) st Q ↔ Q (.bl (decide (i = j))) st := by
  have e : oEq (.int i, .int j) st = some (.bl (decide (i = j)), st) := by
    simp [oEq, dat64, dat, SeqAt.shaped, PyData.canLay0, PyData.depth]; rfl
  constructor
  · rintro ⟨a, s, e2, q⟩
    rw [e] at e2
    cases e2
    exact q
  · exact fun q => ⟨_, _, e, q⟩
@[simp] theorem Wo_neI : Wo oNe (.int i, .int j) st Q ↔ Q (.bl (!decide (i = j))) st := by
  have e : oNe (.int i, .int j) st = some (.bl (!decide (i = j)), st) := by
    simp [oNe, dat64, dat, SeqAt.shaped, PyData.canLay0, PyData.depth]; rfl
  constructor
  · rintro ⟨a, s, e2, q⟩
    rw [e] at e2
    cases e2
    exact q
  · exact fun q => ⟨_, _, e, q⟩
@[simp] theorem Wo_int1 : Wo oInt1 [.int i] st Q ↔ Q (.int i) st := ⟨fun ⟨_, _, e, q⟩ => by cases e; exact q, fun q => ⟨_, _, rfl, q⟩⟩
@[simp] theorem Wo_abs : Wo oAbs [.int i] st Q ↔ Q (.int (if i < 0 then -i else i)) st := ⟨fun ⟨_, _, e, q⟩ => by cases e; exact q, fun q => ⟨_, _, rfl, q⟩⟩
theorem Wo_lst {ds : List D} (h : ds.length ≤ sizeLine) : Wo oLst ds st Q ↔ Q (.loc st.length) (st ++ [.lst ds]) := by
  constructor
  · rintro ⟨a, s, e, q⟩
    unfold oLst at e
    rw [if_pos h] at e
    cases e
    exact q
  · exact fun q => ⟨_, _, by unfold oLst; rw [if_pos h], q⟩
theorem Wo_tup {ds : List D} (h : ds.length ≤ sizeLine) : Wo oTup ds st Q ↔ Q (.tup ds) st := by
  constructor
  · rintro ⟨a, s, e, q⟩
    unfold oTup at e
    rw [if_pos h] at e
    cases e
    exact q
  · exact fun q => ⟨_, _, by unfold oTup; rw [if_pos h], q⟩
theorem Wo_dget {n : Nat} {kvs : List (Key × D)} {x : Str} {d : D} (h : st[n]? = some (.dK kvs)) (hv : valG kvs (.inr x) = some d) : Wo oDget (.loc n, .str x) st Q ↔ Q d st := by
  have e : oDget (.loc n, .str x) st = some (d, st) := by
    unfold oDget
    simp [dget, h, keyK, hv]
  constructor
  · rintro ⟨a, s, e2, q⟩
    rw [e] at e2
    cases e2
    exact q
  · exact fun q => ⟨_, _, e, q⟩
end
end S3

set_option maxHeartbeats 4000000
/-! S4C: what the draws give. -/
namespace S3
open PySem PyProof.Rows L2
theorem ints_get {cs : List Int} {i : Nat} (h : i < cs.length) : (cs.map D.int)[i]? = some (.int cs[i]) := by simp [h]
theorem ints_end {cs : List Int} : (cs.map D.int)[cs.length]? = none := by simp
theorem srcL_loc {st : Sto} {n i : Nat} {ds : List D} (h : st[n]? = some (.lst ds)) : srcL (.loc n) st i = some ds[i]? := by
  unfold srcL
  simp [seqL, h]
theorem seqL_loc {st : Sto} {n : Nat} {ds : List D} (h : st[n]? = some (.lst ds)) : seqL st (.loc n) = some ds := by
  unfold seqL
  simp [h]
theorem small_sz {n : Nat} (h : n ≤ 1000000) : n ≤ sizeLine := Nat.le_trans h (by decide)
theorem small_sz' {n : Nat} (h : n < 1000000) : n < sizeLine := Nat.lt_of_lt_of_le h (by decide)
theorem Ok_overL {f : F3 D} {env : Env3} {st : Sto} {Q : Src → Sto → Prop} (h : Ok f env st fun d st1 => ∃ ds, seqL st1 d = some ds ∧ Q (srcL d) st1) : Ok (fOverL f) env st Q := by
  unfold fOverL
  rw [Ok_bnd]
  refine h.mono fun d s q => ?_
  obtain ⟨ds, e, q⟩ := q
  exact ⟨_, _, by dsimp only; rw [e], q⟩
theorem mixed_ok {st : Sto} {p w c T : Nat} (h : Drw st p w c T) (hT : T < 2 ^ 40) : Wd dr_mixed [.loc p] st fun r st' => (∃ x, r = .int x) ∧ Drw st' p w c (T + 1) ∧ Frm p w st st' := by
  obtain ⟨r, t, ws, cs, x⟩ := h
  have tT := x.tT
  have t0 := x.t0
  refine Wd_of ?_
  show Ws _ [some (.loc p), none, none, none, none, none] _ _
  unfold fr_mixed
  rw [Ws_seq]
  refine Ws_par ?_
  simp only [List.map_cons, List.map_nil, List.length_cons, List.length_nil, Ok_fCons, Ok_fB, Ok_var0, Ok_ret, Ok_fNil, Wo_dget x.hp dkv_turn, Wo_add]
  refine ⟨trivial, ?_⟩
  show Ws _ [some (.loc p), some (.int (t + 1)), some (.int 0), none, none, none] _ _
  rw [Ws_seq]
  refine Ws_sub ?_
  simp only [Ok_varS, Ok_var0, Ok_ret]
  refine ⟨st.set p (.dK (dkv w c r (t + 1))), by simp [oSet, x.hp, keyK, dkv_len]; exact if_pos (small_sz' (n := 4) (by decide)), ?_⟩
  show Ws _ _ _ _
  have hp : p < st.length := (List.getElem?_eq_some_iff.mp x.hp).1
  have hc1 : (st.set p (.dK (dkv w c r (t + 1))))[c]? = some (.lst (cs.map D.int)) := by rw [List.getElem?_set_ne x.pc]; exact x.hc
  have hp1 : (st.set p (.dK (dkv w c r (t + 1))))[p]? = some (.dK (dkv w c r (t + 1))) := List.getElem?_set_self hp
  have hw1 : (st.set p (.dK (dkv w c r (t + 1))))[w]? = some (.lst (ws.map D.int)) := by rw [List.getElem?_set_ne x.pw]; exact x.hw
  have fr1 : Frm p w st (st.set p (.dK (dkv w c r (t + 1)))) := Frm.set (.inl rfl)
  have dr1 : Drw (st.set p (.dK (dkv w c r (t + 1)))) p w c (T + 1) := ⟨r, t + 1, ws, cs, hp1, hw1, hc1, x.pw, x.pc, x.wc, by omega, by omega, x.wl, x.cl⟩
  generalize st.set p (.dK (dkv w c r (t + 1))) = st1 at hc1 hp1 hw1 fr1 dr1 ⊢
  rw [Ws_seq]
  refine Ws_for (Ok_overL ?_)
  simp only [Ok_fArgs, Ok_fCons, Ok_ret, Ok_fNil]
  rw [Wo_lst (small_sz (by simp))]
  refine ⟨_, seqL_loc app_new, 4, fun i env s => (∃ f e3 e4 e5, env = [some (.loc p), some (.int (t + 1)), some (.int f), e3, e4, e5]) ∧ s = st1 ++ [.lst [.int 2147483647, .int 2147483629, .int 2147483587, .int 2147483579]], by decide, ⟨⟨0, none, none, none, rfl⟩, rfl⟩, ?_, ?_⟩
  · rintro i env s hi ⟨⟨f, e3, e4, e5, rfl⟩, rfl⟩
    rw [srcL_loc (ds := [.int 2147483647, .int 2147483629, .int 2147483587, .int 2147483579]) (by simp)]
    have hpr : ∃ pr : Int, ([.int 2147483647, .int 2147483629, .int 2147483587, .int 2147483579] : List D)[i]? = some (.int pr) ∧ 2147483579 ≤ pr ∧ pr ≤ 2147483647 := by
      match i, hi with
      | 0, _ => exact ⟨_, rfl, by decide, by decide⟩
      | 1, _ => exact ⟨_, rfl, by decide, by decide⟩
      | 2, _ => exact ⟨_, rfl, by decide, by decide⟩
      | 3, _ => exact ⟨_, rfl, by decide, by decide⟩
    obtain ⟨pr, epr, hp1', hp2'⟩ := hpr
    refine ⟨_, _, _, by rw [epr], rfl, ?_⟩
    show Ws _ [some (.loc p), some (.int (t + 1)), some (.int f), some (.int pr), e4, e5] _ _
    rw [Ws_seq]
    refine Ws_set ?_
    simp only [Ok_fB, Ok_varS, Ok_var0, Ok_ret, Wo_mul, Wo_div, Wo_add]
    refine ⟨.inl (by decide), ⟨by decide, by decide⟩, ?_⟩
    show Ws _ [some (.loc p), some (.int (t + 1)), some (.int f), some (.int pr), some (.int (48271 * (t + 1) + pr / 37)), e5] _ _
    have hb : 0 ≤ 48271 * (t + 1) + pr / 37 ∧ 48271 * (t + 1) + pr / 37 < 2 ^ 64 := by
      have : pr / 37 ≤ pr := Int.ediv_le_self _ (by omega)
      have : 0 ≤ pr / 37 := Int.ediv_nonneg (by omega) (by decide)
      constructor <;> omega
    generalize 48271 * (t + 1) + pr / 37 = b at hb
    rw [Ws_seq]
    refine Ws_for (Ok_overL ?_)
    simp only [Ok_fB, Ok_var0, Ok_ret]
    rw [Wo_dget (app_get hp1) dkv_cells]
    refine ⟨_, seqL_loc (app_get hc1), cs.length, fun j env s => (∃ b e5, env = [some (.loc p), some (.int (t + 1)), some (.int f), some (.int pr), some (.int b), e5] ∧ 0 ≤ b ∧ b < 2 ^ 64) ∧ s = st1 ++ [.lst [.int 2147483647, .int 2147483629, .int 2147483587, .int 2147483579]], by have := x.cl; show cs.length < 1000000; omega, ⟨⟨b, e5, rfl, hb.1, hb.2⟩, rfl⟩, ?_, ?_⟩
    · rintro j env s hj ⟨⟨b, e5, rfl, b0, b1⟩, rfl⟩
      rw [srcL_loc (app_get hc1), ints_get hj]
      refine ⟨_, _, _, rfl, rfl, ?_⟩
      show Ws _ [some (.loc p), some (.int (t + 1)), some (.int f), some (.int pr), some (.int b), some (.int cs[j])] _ _
      refine Ws_set ?_
      simp only [Ok_fB, Ok_fArgs, Ok_fCons, Ok_fNil, Ok_varS, Ok_var0, Ok_ret, Wo_mul, Wo_add, Wo_int1, Wo_mod]
      refine ⟨.inr (by decide), by omega, ⟨_, _, rfl, Int.emod_nonneg _ (by omega), ?_⟩, trivial⟩
      have := Int.emod_lt_of_pos (b * 69621 + cs[j] + (t + 1)) (show 0 < pr by omega)
      omega
    · rintro env s ⟨⟨b, e5, rfl, b0, b1⟩, rfl⟩
      refine ⟨by rw [srcL_loc (app_get hc1), ints_end], ?_⟩
      show Ws _ _ _ _
      refine Ws_set ?_
      simp only [Ok_fB, Ok_fArgs, Ok_fCons, Ok_fNil, Ok_varS, Ok_var0, Ok_ret, Wo_mul, Wo_add, Wo_int1, Wo_mod, Wo_pow]
      refine ⟨.inr (by decide), ⟨by decide, by decide, by omega⟩, by omega, ⟨_, _, _, _, rfl⟩, trivial⟩
  · rintro env s ⟨⟨f, e3, e4, e5, rfl⟩, rfl⟩
    refine ⟨by rw [srcL_loc (ds := [.int 2147483647, .int 2147483629, .int 2147483587, .int 2147483579]) (by simp)]; rfl, ?_⟩
    show Ws _ _ _ _
    refine Ws_ret ?_
    simp only [Ok_varS, Ok_var0]
    exact ⟨⟨_, rfl⟩, dr1.app _, fr1.trans (Frm.app _)⟩
/-! ### lists as data -/
theorem mapO_ints {st : Sto} {n : Nat} : ∀ ws : List Int, mapO (dat st (n + 1)) (ws.map D.int) = some (ws.map PyData.int)
  | [] => rfl
  | w :: ws => by
    have ih := mapO_ints (st := st) (n := n) ws
    show mapO (dat st (n + 1)) (.int w :: ws.map D.int) = _
    unfold mapO
    rw [ih]
    rfl
theorem lay_ints : ∀ ws : List Int, PyData.canLayAll0 (ws.map PyData.int) = true ∧ PyData.depthAll (ws.map PyData.int) = 0
  | [] => ⟨rfl, rfl⟩
  | w :: ws => by
    obtain ⟨h1, h2⟩ := lay_ints ws
    constructor
    · show (PyData.canLay0 (.int w) && PyData.canLayAll0 (ws.map PyData.int)) = true
      rw [h1]
      rfl
    · show max (PyData.depth (.int w)) (PyData.depthAll (ws.map PyData.int)) = 0
      rw [h2]
      rfl
theorem dat64_ints {st : Sto} {n : Nat} {ws : List Int} (h : st[n]? = some (.lst (ws.map D.int))) : dat64 st (.loc n) = some (.list (ws.map PyData.int)) := by
  have e : dat st 66 (.loc n) = some (.list (ws.map PyData.int)) := by
    show dat st (65 + 1) (.loc n) = _
    unfold dat
    rw [h]
    dsimp only
    rw [mapO_ints (n := 64) ws]
  obtain ⟨h1, h2⟩ := lay_ints ws
  have h3 : SeqAt.shaped (PyData.list (ws.map PyData.int)) = true := by
    have h4 : PyData.canLay0 (PyData.list (ws.map PyData.int)) = true := h1
    have h5 : PyData.depth (PyData.list (ws.map PyData.int)) = 1 := by
      show PyData.depthAll (ws.map PyData.int) + 1 = 1
      rw [h2]
    simp [SeqAt.shaped, h4, h5]
  unfold dat64
  rw [e]
  simp [h3]
theorem Wo_ne_nil {st : Sto} {n m : Nat} {ws : List Int} {Q : D → Sto → Prop} (h : st[n]? = some (.lst (ws.map D.int))) (h2 : st[m]? = some (.lst [])) : Wo oNe (.loc n, .loc m) st Q ↔ Q (.bl (!ws.isEmpty)) st := by
  have e : oNe (.loc n, .loc m) st = some (.bl (!ws.isEmpty), st) := by
    unfold oNe
    rw [dat64_ints h, dat64_ints (ws := []) h2]
    cases ws <;> rfl
  constructor
  · rintro ⟨a, s, e2, q⟩
    rw [e] at e2
    cases e2
    exact q
  · exact fun q => ⟨_, _, e, q⟩
theorem Wo_popAt {st : Sto} {n : Nat} {ds : List D} {i : Nat} {d : D} {Q : D → Sto → Prop} (h : st[n]? = some (.lst ds)) (hd : ds[i]? = some d) (hl : ds.length ≤ 1000000) : Wo oPopAt (.loc n, [.int (i : Nat)]) st Q ↔ Q d (st.set n (.lst (ds.eraseIdx i))) := by
  have hi : i < ds.length := (List.getElem?_eq_some_iff.mp hd).1
  have e : oPopAt (.loc n, [.int (i : Nat)]) st = some (d, st.set n (.lst (ds.eraseIdx i))) := by
    unfold oPopAt
    have e1 : ownL st (.loc n) = some (n, ds) := by simp [ownL, h]
    have e2 : seqIndex? (i : Nat) ds.length = some i := by
      unfold seqIndex?
      simp
      omega
    simp only [e1]
    rw [if_pos (by omega), e2]
    simp only [hd]
  constructor
  · rintro ⟨a, s, e2, q⟩
    rw [e] at e2
    cases e2
    exact q
  · exact fun q => ⟨_, _, e, q⟩
theorem Drw.oSetR {st : Sto} {p w c T : Nat} (h : Drw st p w c T) (x : Int) : ∃ st', oSet st (.loc p) (.str "rest") (.int x) = some st' ∧ Drw st' p w c T ∧ Frm p w st st' ∧ st'.length = st.length ∧ ∃ t ws cs, DrwX st' p w c x t ws cs T := by
  obtain ⟨r, t, ws, cs, y⟩ := h
  have hp : p < st.length := (List.getElem?_eq_some_iff.mp y.hp).1
  have hx : DrwX (st.set p (.dK (dkv w c x t))) p w c x t ws cs T := ⟨List.getElem?_set_self hp, by rw [List.getElem?_set_ne y.pw]; exact y.hw, by rw [List.getElem?_set_ne y.pc]; exact y.hc, y.pw, y.pc, y.wc, y.t0, y.tT, y.wl, y.cl⟩
  exact ⟨st.set p (.dK (dkv w c x t)), by simp [oSet, y.hp, keyK, dkv_len]; exact if_pos (small_sz' (n := 4) (by decide)), ⟨x, t, ws, cs, hx⟩, Frm.set (.inl rfl), by simp, t, ws, cs, hx⟩
theorem take_ok {st : Sto} {p w c T : Nat} {many : Int} (h : Drw st p w c T) (hT : T < 2 ^ 40) (hm : 0 < many) (hm2 : many < 1073741824) : Wd dr_take [.loc p, .int many] st fun r st' => (∃ x, r = .int x ∧ 0 ≤ x ∧ x < many) ∧ Drw st' p w c (T + 1) ∧ Frm p w st st' := by
  refine Wd_of ?_
  show Ws _ [some (.loc p), some (.int many), none] _ _
  unfold fr_take
  rw [Ws_seq]
  have first : Ws (fIfS (bnd (fB oEq (fB oDget (fVar 0) (ret3 (.str "rest"))) (ret3 (.int 0))) asB)
    (fAsg (fIf (bnd (fB oNe (fB oDget (fVar 0) (ret3 (.str "wide"))) (fArgs oLst fNil)) asB) (fMeth oPopAt (fB oDget (fVar 0) (ret3 (.str "wide"))) (fCons (ret3 (.int 0)) fNil)) (fCall 1 dr_mixed (fCons (fVar 0) fNil))) (gSub3 (fVar 0) (ret3 (.str "rest"))))
    fNop) [some (.loc p), some (.int many), none] st (fun r env st1 => r = .nx ∧ env = [some (.loc p), some (.int many), none] ∧ Drw st1 p w c (T + 1) ∧ Frm p w st st1) := by
    obtain ⟨r, t, ws, cs, x⟩ := h
    refine Ws_if ?_
    simp only [Ok_bnd, Ok_fB, Ok_var0, Ok_ret, Wo_dget x.hp dkv_rest, Wo_eqI, Ok_asB, D.bl.injEq, exists_eq_left']
    by_cases hr : r = 0
    · rw [if_pos (by simpa using hr)]
      refine Ws_sub ?_
      simp only [Ok_fIf, Ok_bnd, Ok_fB, Ok_var0, Ok_ret, Wo_dget x.hp dkv_wide, Ok_fArgs, Ok_fNil]
      rw [Wo_lst (small_sz (by simp)), Wo_ne_nil (app_get x.hw) app_new]
      simp only [Ok_asB, D.bl.injEq, exists_eq_left']
      have hp2 := app_get (l := [O.lst []]) x.hp
      have hw2 := app_get (l := [O.lst []]) x.hw
      have d2 : Drw (st ++ [O.lst []]) p w c T := Drw.app ⟨r, t, ws, cs, x⟩ _
      cases ws with
      | nil =>
        rw [if_neg (by simp)]
        simp only [Ok_fCall, Ok_fCons, Ok_var0, Ok_fNil]
        refine ⟨rfl, (mixed_ok d2 hT).mono fun v st2 hv => ?_⟩
        obtain ⟨⟨y, rfl⟩, dd, ff⟩ := hv
        obtain ⟨st3, e3, d3, f3, _, _⟩ := dd.oSetR y
        exact ⟨st3, e3, trivial, trivial, d3, ((Frm.app _).trans ff).trans f3⟩
      | cons y ws' =>
        rw [if_pos (by simp)]
        simp only [Ok_fMeth, Ok_fB, Ok_var0, Ok_ret, Wo_dget hp2 dkv_wide, Ok_fCons, Ok_fNil]
        refine ⟨by rw [seqL_loc hw2]; rfl, ?_⟩
        rw [show (0 : Int) = ((0 : Nat) : Int) by rfl, Wo_popAt hw2 (by rfl) (by have := x.wl; simp at this ⊢; omega)]
        have hwl : w < (st ++ [O.lst []]).length := (List.getElem?_eq_some_iff.mp hw2).1
        have d3 : Drw ((st ++ [O.lst []]).set w (.lst (ws'.map D.int))) p w c T := ⟨r, t, ws', cs, by rw [List.getElem?_set_ne (Ne.symm x.pw)]; exact hp2, List.getElem?_set_self hwl, by rw [List.getElem?_set_ne x.wc]; exact app_get x.hc, x.pw, x.pc, x.wc, x.t0, x.tT, by have := x.wl; simp at this; omega, x.cl⟩
        obtain ⟨st4, e4, d4, f4, _, _⟩ := d3.oSetR y
        exact ⟨st4, e4, trivial, trivial, d4.mono (by omega), ((Frm.app _).trans (Frm.set (.inr rfl))).trans f4⟩
    · rw [if_neg (by simpa using hr)]
      rw [Ws_nop]
      exact ⟨rfl, rfl, Drw.mono ⟨r, t, ws, cs, x⟩ (by omega), Frm.refl _⟩
  refine first.mono fun rr env st1 hh => ?_
  obtain ⟨rfl, rfl, d1, f1⟩ := hh
  rw [thenS_nx, Ws_seq]
  obtain ⟨r, t, ws, cs, x⟩ := id d1
  refine Ws_set ?_
  simp only [Ok_fB, Ok_fArgs, Ok_fCons, Ok_fNil, Ok_varS, Ok_var0, Ok_ret, Wo_dget x.hp dkv_rest, Wo_int1, Wo_mod]
  refine ⟨hm, ?_⟩
  show Ws _ [some (.loc p), some (.int many), some (.int (r % many))] _ _
  rw [Ws_seq]
  refine Ws_sub ?_
  simp only [Ok_fB, Ok_varS, Ok_var0, Ok_ret, Wo_dget x.hp dkv_rest, Wo_div]
  refine ⟨⟨hm, hm2⟩, ?_⟩
  obtain ⟨st2, e2, d2, f2, _, _⟩ := d1.oSetR (r / many)
  refine ⟨st2, e2, ?_⟩
  rw [thenS_nx]
  refine Ws_ret ?_
  simp only [Ok_varS, Ok_var0]
  exact ⟨⟨_, rfl, Int.emod_nonneg _ (by omega), Int.emod_lt_of_pos _ hm⟩, d2, f1.trans f2⟩
end S3

set_option maxHeartbeats 4000000
/-! S4D: picks, shuffles, the draw's begin. -/
namespace S3
open PySem PyProof.Rows L2
section
variable {st : Sto} {x : D} {ds : List D} {Q : D → Sto → Prop}
theorem Wo_iff {α β : Type} {o : F1 α β} {a : α} {st st2 : Sto} {b : β} {Q : β → Sto → Prop} (e : o a st = some (b, st2)) : Wo o a st Q ↔ Q b st2 := by
  constructor
  · rintro ⟨c, s, e2, q⟩
    rw [e] at e2
    cases e2
    exact q
  · exact fun q => ⟨_, _, e, q⟩
theorem seqA_ns {z : Str} : seqA st (.str z) = none := by simp [seqA, seqT, seqL]
theorem Wo_len (h : seqA st x = some ds) : Wo oLen [x] st Q ↔ Q (.int ds.length) st := Wo_iff (by
  unfold oLen
  split
  · rename_i z hz
    cases hz
    rw [seqA_ns] at h
    cases h
  · rename_i y hy hz
    cases hz
    rw [h]
  · rename_i h1 h2
    exact absurd rfl (h2 x))
theorem Wo_ix {n : Nat} {d : D} (h : seqA st x = some ds) (hd : ds[n]? = some d) : Wo oIx (x, .int (n : Nat)) st Q ↔ Q d st := Wo_iff (by
  unfold oIx
  dsimp only
  split
  · rw [seqA_ns] at h
    cases h
  · rw [h]
    dsimp only
    have : L2.atI ds (n : Nat) = some d := by
      have hn : n < ds.length := (List.getElem?_eq_some_iff.mp hd).1
      unfold L2.atI L2.ixN
      rw [if_pos (by omega), if_pos (by omega)]
      simp [hd]
    rw [this])
theorem seqA_loc {n : Nat} (h : st[n]? = some (.lst ds)) : seqA st (.loc n) = some ds := by
  unfold seqA
  simp [seqT, seqL, h]
theorem seqA_tup : seqA st (.tup ds) = some ds := by simp [seqA, seqT]
theorem Wo_app {n : Nat} {y : D} (h : st[n]? = some (.lst ds)) (hl : ds.length < 1000000) : Wo oApp (.loc n, [y]) st Q ↔ Q .non (st.set n (.lst (ds ++ [y]))) := Wo_iff (by
  unfold oApp
  have e1 : ownL st (.loc n) = some (n, ds) := by simp [ownL, h]
  simp only [e1]
  rw [if_pos (small_sz' hl)])
end
theorem eraseIdx_map' {α β : Type} (f : α → β) : ∀ (l : List α) (i : Nat), (l.map f).eraseIdx i = (l.eraseIdx i).map f
  | [], _ => rfl
  | _ :: _, 0 => rfl
  | a :: l, i + 1 => by
    show f a :: (l.map f).eraseIdx i = f a :: (l.eraseIdx i).map f
    rw [eraseIdx_map' f l i]
theorem erase_perm {α : Type} : ∀ {l : List α} {i : Nat} (h : i < l.length), (l[i] :: l.eraseIdx i).Perm l
  | a :: l, 0, _ => List.Perm.refl _
  | a :: l, i + 1, h => by
    have h' : i < l.length := by simpa using h
    have ih := erase_perm h'
    show (l[i] :: a :: l.eraseIdx i).Perm (a :: l)
    exact (List.Perm.swap a l[i] _).trans (ih.cons a)
theorem Frm.setNew {p w n : Nat} {st st' : Sto} {o : O} (f : Frm p w st st') (h : st.length ≤ n) : Frm p w st (st'.set n o) := ⟨by have := f.len; simpa using this, fun m hm h1 h2 => by rw [List.getElem?_set_ne (by omega)]; exact f.at_ m hm h1 h2⟩
theorem Frm.drw {p w c T : Nat} {st st' : Sto} (_h : Drw st p w c T) (f : Frm p w st st') {n : Nat} {o : O} (e : st[n]? = some o) (h1 : n ≠ p) (h2 : n ≠ w) : st'[n]? = some o := f.get e h1 h2
theorem pick_ok {st : Sto} {p w c T : Nat} {x : D} {ds : List D} (h : Drw st p w c T) (hT : T < 2 ^ 40) (hx : ∀ st', Frm p w st st' → seqA st' x = some ds) (h0 : 0 < ds.length) (h1 : ds.length < 1000000) : Wd dr_pick [.loc p, x] st fun r st' => r ∈ ds ∧ Drw st' p w c (T + 1) ∧ Frm p w st st' := by
  refine Wd_of ?_
  show Ws _ [some (.loc p), some x] _ _
  unfold fr_pick
  refine Ws_ret ?_
  simp only [Ok_fB, Ok_varS, Ok_var0, Ok_fCall, Ok_fCons, Ok_fNil, Ok_fArgs]
  rw [Wo_len (hx st (Frm.refl st))]
  refine ⟨rfl, (take_ok h hT (by omega) (by omega)).mono fun r st2 hr => ?_⟩
  obtain ⟨⟨i, rfl, i0, i1⟩, d2, f2⟩ := hr
  have hi : i.toNat < ds.length := by omega
  have e : i = ((i.toNat : Nat) : Int) := by omega
  rw [e, Wo_ix (hx st2 f2) (List.getElem?_eq_getElem hi)]
  exact ⟨List.getElem_mem hi, d2, f2⟩
theorem shuffled_ok {st : Sto} {p w c T : Nat} {x : D} {ns : List Int} (h : Drw st p w c T) (hT : T + ns.length < 2 ^ 40) (hx : seqA st x = some (ns.map D.int)) (h1 : ns.length < 1000000) : Wd dr_shuffled [.loc p, x] st fun r st' => (∃ (m : Nat) (ms : List Int), r = .loc m ∧ st.length ≤ m ∧ st'[m]? = some (.lst (ms.map D.int)) ∧ ms.Perm ns) ∧ Drw st' p w c (T + ns.length) ∧ Frm p w st st' := by
  obtain ⟨hpl, hwl, hcl⟩ : p < st.length ∧ w < st.length ∧ c < st.length := by
    obtain ⟨r, t, ws, cs, y⟩ := h
    exact ⟨(List.getElem?_eq_some_iff.mp y.hp).1, (List.getElem?_eq_some_iff.mp y.hw).1, (List.getElem?_eq_some_iff.mp y.hc).1⟩
  refine Wd_of ?_
  show Ws _ [some (.loc p), some x, none, none] _ _
  unfold fr_shuffled
  rw [Ws_seq]
  refine Ws_par ?_
  simp only [Ok_fCons, Ok_fArgs, Ok_varS, Ok_var0, Ok_fNil]
  have eL : oList [x] st = some (.loc st.length, st ++ [.lst (ns.map D.int)]) := by
    unfold oList
    simp [hx]
  rw [Wo_iff eL, Wo_lst (small_sz (by simp))]
  refine ⟨rfl, ?_⟩
  rw [thenS_nx]
  show Ws _ [some (.loc p), some x, some (.loc st.length), some (.loc (st ++ [O.lst (ns.map D.int)]).length)] _ _
  rw [show (st ++ [O.lst (ns.map D.int)]).length = st.length + 1 by simp, Ws_seq]
  refine Ws_while (fun k env s => env = [some (.loc p), some x, some (.loc st.length), some (.loc (st.length + 1))] ∧ ∃ ls fs : List Int, ls.length = k ∧ s[st.length]? = some (.lst (ls.map D.int)) ∧ s[st.length + 1]? = some (.lst (fs.map D.int)) ∧ (fs ++ ls).Perm ns ∧ Drw s p w c (T + fs.length) ∧ Frm p w st s) ?_ loopN ns.length _ _ (by show ns.length < 1000000; omega) ⟨rfl, ns, [], rfl, by simp, by simp, by simp, ?_, ?_⟩
  · rintro k env s ⟨rfl, ls, fs, hk, e1, e2, hp, dd, ff⟩
    have hsum : fs.length + ls.length = ns.length := by
      have := hp.length_eq
      simpa using this
    simp only [Ok_bnd, Ok_fB, Ok_varS, Ok_var0, Ok_fArgs, Ok_fNil]
    rw [Wo_lst (small_sz (by simp)), Wo_ne_nil (app_get e1) app_new]
    simp only [Ok_asB, D.bl.injEq, exists_eq_left']
    have d2 : Drw (s ++ [O.lst []]) p w c (T + fs.length) := dd.app _
    have e1' := app_get (l := [O.lst []]) e1
    have e2' := app_get (l := [O.lst []]) e2
    cases hls : ls with
    | nil =>
      rw [if_neg (by simp)]
      rw [thenS_nx]
      refine Ws_ret ?_
      simp only [Ok_varS, Ok_var0]
      subst hls
      refine ⟨⟨_, fs, rfl, by omega, e2', by simpa using hp⟩, ?_, ff.trans (Frm.app _)⟩
      have : fs.length = ns.length := by simpa using hsum
      rw [← this]
      exact d2
    | cons y ls' =>
      rw [if_pos (by simp)]
      refine Ws_drop ?_
      simp only [Ok_fMeth, Ok_varS, Ok_var0, Ok_fCons, Ok_fNil, Ok_fCall, Ok_fArgs]
      refine ⟨by rw [seqL_loc e2']; rfl, by rw [seqL_loc e1']; rfl, ?_⟩
      rw [Wo_len (seqA_loc e1')]
      have hlpos : 0 < ls.length := by rw [hls]; simp
      refine ⟨rfl, (take_ok d2 (by omega) (by simp; omega) (by simp; omega)).mono fun r st2 hr => ?_⟩
      obtain ⟨⟨i, rfl, i0, i1⟩, d3, f3⟩ := hr
      have g1 : st2[st.length]? = some (.lst (ls.map D.int)) := f3.get e1' (by omega) (by omega)
      have g2 : st2[st.length + 1]? = some (.lst (fs.map D.int)) := f3.get e2' (by omega) (by omega)
      have hi : i.toNat < ls.length := by simp at i1; omega
      have e : i = ((i.toNat : Nat) : Int) := by omega
      rw [e, Wo_popAt g1 (ints_get hi) (by simp; omega)]
      have l0 : st.length < st2.length := (List.getElem?_eq_some_iff.mp g1).1
      have l1 : st.length + 1 < st2.length := (List.getElem?_eq_some_iff.mp g2).1
      rw [Wo_app (n := st.length + 1) (ds := fs.map D.int) (by rw [List.getElem?_set_ne (by omega)]; exact g2) (by simp; omega)]
      refine ⟨(ls.eraseIdx i.toNat).length, by rw [List.length_eraseIdx_of_lt hi]; omega, trivial, ls.eraseIdx i.toNat, fs ++ [ls[i.toNat]], rfl, ?_, ?_, ?_, ?_, ?_⟩
      · rw [List.getElem?_set_ne (by omega), List.getElem?_set_self l0]
        rw [eraseIdx_map']
      · rw [List.getElem?_set_self (by simpa using l1)]
        simp
      · refine List.Perm.trans ?_ hp
        have pe : (ls[i.toNat] :: ls.eraseIdx i.toNat).Perm ls := erase_perm hi
        rw [List.append_assoc]
        exact List.Perm.append_left fs pe
      · have : T + (fs ++ [ls[i.toNat]]).length = T + fs.length + 1 := by simp; omega
        rw [this]
        exact (d3.set (by omega) (by omega) (by omega)).set (by omega) (by omega) (by omega)
      · exact (((ff.trans (Frm.app _)).trans f3).setNew (by omega)).setNew (by omega)
  · exact (h.app _).app _
  · exact (Frm.app _).trans (Frm.app _)
end S3

set_option maxHeartbeats 4000000
/-! S4E: comprehensions that write nothing; the draw's begin. -/
namespace S3
open PySem PyProof.Rows L2
/-- only new things were laid -/
def Pre (a b : Sto) : Prop := ∃ l, b = a ++ l
theorem Pre.refl (a : Sto) : Pre a a := ⟨[], by simp⟩
theorem Pre.trans {a b c : Sto} (h : Pre a b) (k : Pre b c) : Pre a c := by
  obtain ⟨l, rfl⟩ := h
  obtain ⟨m, rfl⟩ := k
  exact ⟨l ++ m, by simp⟩
theorem Pre.app (a l : Sto) : Pre a (a ++ l) := ⟨l, rfl⟩
theorem Pre.get {a b : Sto} (h : Pre a b) {n : Nat} {o : O} (e : a[n]? = some o) : b[n]? = some o := by
  obtain ⟨l, rfl⟩ := h
  exact app_get e
theorem Pre.len {a b : Sto} (h : Pre a b) : a.length ≤ b.length := by
  obtain ⟨l, rfl⟩ := h
  simp
theorem Pre.setNew {a b : Sto} (h : Pre a b) {n : Nat} {o : O} (hn : a.length ≤ n) : Pre a (b.set n o) := by
  obtain ⟨l, rfl⟩ := h
  rw [List.set_append_right _ _ hn]
  exact ⟨_, rfl⟩
theorem Pre.frm {p w : Nat} {a b : Sto} (h : Pre a b) : Frm p w a b := by
  obtain ⟨l, rfl⟩ := h
  exact Frm.app _
theorem Pre.drw {p w c T : Nat} {a b : Sto} (h : Pre a b) (d : Drw a p w c T) : Drw b p w c T := by
  obtain ⟨l, rfl⟩ := h
  exact d.app _
theorem Pre.seqL {a b : Sto} (h : Pre a b) {d : D} {ds : List D} (e : seqL a d = some ds) : seqL b d = some ds := by
  unfold S3.seqL at e ⊢
  split at e
  · exact e
  · split at e
    · rename_i h1
      rw [h.get h1]
      exact e
    · cases e
  · cases e
theorem Pre.seqA {a b : Sto} (h : Pre a b) {d : D} {ds : List D} (e : seqA a d = some ds) : seqA b d = some ds := by
  cases hT : seqT d with
  | some x =>
    simp only [S3.seqA, hT] at e ⊢
    exact e
  | none =>
    simp only [S3.seqA, hT] at e ⊢
    exact h.seqL e
theorem lt_loop {n : Nat} (h : n < 1000000) : n < loopN := h
theorem filter_all {α : Type} (l : List α) : l.filter (fun _ => true) = l := List.filter_eq_self.mpr fun _ _ => rfl
theorem filter_take {α : Type} (G : α → Bool) {l : List α} {i : Nat} {d : α} (h : l[i]? = some d) : (l.take (i + 1)).filter G = (l.take i).filter G ++ (if G d = true then [d] else []) := by
  rw [List.take_add_one, h, List.filter_append]
  congr 1
  show [d].filter G = _
  cases hg : G d <;> simp [hg]
section
variable {env : Env3} {st : Sto}
/-- a comprehension that writes nothing -/
theorem Ok_lcP {n : Nat} {vs : List Nat} {fi : F3 Src} {gt : G3} {ft : F3 Bool} {fe : F3 D} {Q : D → Sto → Prop}
    (h : Ok fi env st fun src st0 => ∃ (items : List D) (G : D → Bool) (F : D → D), items.length < n ∧ items.length < 1000000 ∧ (∀ s i, Pre st0 s → src s i = some items[i]?) ∧
      (∀ d s, d ∈ items → Pre st0 s → ∃ env1, gt d (wipeE env vs) s = some (env1, s) ∧ Ok ft env1 s fun b s2 => b = G d ∧ Pre s s2 ∧ (b = true → Ok fe env1 s2 fun y s3 => y = F d ∧ Pre s2 s3)) ∧
      ∀ s, Pre st0 s → s[st0.length]? = some (.lst ((items.filter G).map F)) → Q (.loc st0.length) s) : Ok (fLc n vs fi gt ft fe) env st Q := by
  refine Ok_lc (h.mono fun src st0 q => ?_)
  obtain ⟨items, G, F, hn, hz, hs, hd, hq⟩ := q
  refine ⟨items.length, fun i acc s => acc = ((items.take i).filter G).map F ∧ Pre st0 s, hn, ⟨rfl, Pre.app _ _⟩, ?_, ?_⟩
  · rintro i acc s hi ⟨rfl, ps⟩ hD
    have hget : items[i]? = some items[i] := List.getElem?_eq_getElem hi
    obtain ⟨env1, e1, h1⟩ := hd items[i] s (List.getElem_mem hi) ps
    refine ⟨items[i], env1, s, by rw [hs s i ps, hget], e1, h1.mono fun b s2 hb => ?_⟩
    obtain ⟨rfl, p2, h2⟩ := hb
    have hacc : (((items.take i).filter G).map F).length ≤ i := by
      rw [List.length_map]
      exact Nat.le_trans (List.length_filter_le _ _) (by simp; omega)
    cases hg : G items[i] with
    | true =>
      rw [if_pos rfl]
      refine (h2 hg).mono fun y s3 hy => ?_
      obtain ⟨rfl, p3⟩ := hy
      refine ⟨p3.get (p2.get hD), small_sz' (by omega), ?_, ((ps.trans p2).trans p3).setNew (Nat.le_refl _)⟩
      rw [filter_take G hget, hg, if_pos rfl, List.map_append]
      rfl
    | false =>
      rw [if_neg (by simp)]
      refine ⟨p2.get hD, ?_, ps.trans p2⟩
      rw [filter_take G hget, hg, if_neg (by simp), List.append_nil]
  · rintro acc s ⟨rfl, ps⟩ hD
    rw [List.take_length] at hD
    exact ⟨by rw [hs s _ ps]; simp, hq s ps hD⟩
theorem Ok_overT {f : F3 D} {Q : Src → Sto → Prop} (h : Ok f env st fun d st1 => ∃ ds, seqT d = some ds ∧ Q (srcT ds) st1) : Ok (fOverT f) env st Q := by
  unfold fOverT
  rw [Ok_bnd]
  refine h.mono fun d s q => ?_
  obtain ⟨ds, e, q⟩ := q
  exact ⟨_, _, by dsimp only; rw [e], q⟩
theorem Ok_overR {f : F3 (List D)} {Q : Src → Sto → Prop} (h : Ok f env st fun ds st1 => ∃ j : Nat, ds = [.int j] ∧ j < 1000000 ∧ Q (srcR 0 j) st1) : Ok (fOverR f) env st Q := by
  unfold fOverR
  rw [Ok_bnd]
  refine h.mono fun d s q => ?_
  obtain ⟨j, rfl, hj, q⟩ := q
  refine ⟨_, _, by dsimp only; rw [if_pos (by omega)], by simpa using q⟩
theorem Ok_overET {f : F3 (List D)} {Q : Src → Sto → Prop} (h : Ok f env st fun ds st1 => ∃ d xs, ds = [d] ∧ seqT d = some xs ∧ Q (srcET xs) st1) : Ok (fOverET f) env st Q := by
  unfold fOverET
  rw [Ok_bnd]
  refine h.mono fun d s q => ?_
  obtain ⟨d, xs, rfl, e, q⟩ := q
  exact ⟨_, _, by dsimp only; rw [e], q⟩
theorem Ok_overZ {f : F3 (List D)} {Q : Src → Sto → Prop} (h : Ok f env st fun ds st1 => ∃ xs ys, ds = [.tup xs, .tup ys] ∧ Q (srcZ xs ys) st1) : Ok (fOverZ f) env st Q := by
  unfold fOverZ
  rw [Ok_bnd]
  refine h.mono fun d s q => ?_
  obtain ⟨xs, ys, rfl, q⟩ := q
  exact ⟨_, _, rfl, q⟩
theorem rg_get (n i : Nat) : ((List.range n).map fun i => D.int (i : Nat))[i]? = if i < n then some (.int (i : Nat)) else none := by
  rw [List.getElem?_map]
  by_cases h : i < n
  · rw [List.getElem?_range h, if_pos h]
    rfl
  · rw [if_neg h, List.getElem?_eq_none (by simpa using h)]
    rfl
theorem srcR_eq {s : Sto} {n i : Nat} : srcR 0 n s i = some ((List.range n).map fun i => D.int (i : Nat))[i]? := by
  unfold srcR
  rw [rg_get]
  by_cases h : i < n
  · rw [if_pos h, if_pos h]
    simp
  · rw [if_neg h, if_neg h]
end
/-! ### the draw's begin -/
theorem begun_ok {st : Sto} {ns : List Int} (h : ns.length ≤ 63) : Wd dr_begun [.lcon (ns.map D.int)] st fun r st' => ∃ p w c, r = .loc p ∧ Drw st' p w c 0 ∧ Pre st st' ∧ st.length ≤ p ∧ st.length ≤ w ∧ st.length ≤ c := by
  refine Wd_of ?_
  show Ws _ [some (.lcon (ns.map D.int)), none, none] _ _
  unfold fr_begun
  rw [Ws_seq]
  refine Ws_set (Ok_lcP (Ok_overL ?_))
  simp only [Ok_var0]
  have int_of : ∀ {d : D}, d ∈ ns.map D.int → ∃ i, d = .int i := fun {d} hd => by
    obtain ⟨i, _, rfl⟩ := List.mem_map.mp hd
    exact ⟨i, rfl⟩
  refine ⟨ns.map D.int, by simp [seqL], ns.map D.int, fun d => match d with
      | .int i => decide ((10 : Int) ^ 18 ≤ if i < 0 then -i else i)
      | _ => false, fun d => match d with
      | .int i => .int ((if i < 0 then -i else i) - (10 : Int) ^ 18)
      | d => d, lt_loop (by simp; omega), by simp; omega, fun s i _ => rfl, fun d s hd ps => ?_, fun s ps hs => ?_⟩
  · obtain ⟨i, rfl⟩ := int_of hd
    refine ⟨[some (.lcon (ns.map D.int)), none, some (.int i)], rfl, ?_⟩
    simp only [Ok_bnd, Ok_fB, Ok_fArgs, Ok_fCons, Ok_fNil, Ok_varS, Ok_var0, Ok_ret, Wo_abs, Wo_pow, Wo_ge, Wo_sub, Ok_asB, D.bl.injEq, exists_eq_left']
    exact ⟨⟨by decide, by decide, by decide⟩, rfl, Pre.refl _, fun _ => ⟨⟨by decide, by decide, by decide⟩, rfl, Pre.refl _⟩⟩
  · obtain ⟨ws, hws, hwl⟩ : ∃ ws : List Int, s[st.length]? = some (.lst (ws.map D.int)) ∧ ws.length ≤ 63 := by
      refine ⟨(ns.filter fun i => decide ((10 : Int) ^ 18 ≤ if i < 0 then -i else i)).map fun i => (if i < 0 then -i else i) - (10 : Int) ^ 18, ?_, ?_⟩
      · rw [hs, List.filter_map, List.map_map, List.map_map]
        rfl
      · rw [List.length_map]
        exact Nat.le_trans (List.length_filter_le _ _) h
    rw [thenS_nx]
    show Ws _ [some (.lcon (ns.map D.int)), some (.loc st.length), none] s _
    refine Ws_ret ?_
    simp only [Ok_fDisp, Ok_fPair, Ok_fPairNil, Ok_ret, Ok_varS, Ok_var0]
    refine Ok_lcP (Ok_overL ?_)
    simp only [Ok_var0]
    refine ⟨ns.map D.int, by simp [seqL], ns.map D.int, fun _ => true, fun d => match d with
      | .int i => .int ((if i < 0 then -i else i) % 2147483629)
      | d => d, lt_loop (by simp; omega), by simp; omega, fun s i _ => rfl, fun d s hd ps => ?_, fun s2 ps2 hs2 => ?_⟩
    · obtain ⟨i, rfl⟩ := int_of hd
      refine ⟨[some (.lcon (ns.map D.int)), some (.loc st.length), some (.int i)], rfl, ?_⟩
      simp only [Ok_fB, Ok_fArgs, Ok_fCons, Ok_fNil, Ok_varS, Ok_var0, Ok_ret, Wo_abs, Wo_int1, Wo_mod]
      exact ⟨trivial, Pre.refl _, fun _ => ⟨by decide, trivial, Pre.refl _⟩⟩
    · obtain ⟨cs, hcs, hcl⟩ : ∃ cs : List Int, s2[(s ++ [O.dK []]).length]? = some (.lst (cs.map D.int)) ∧ cs.length ≤ 63 := by
        refine ⟨ns.map fun i => (if i < 0 then -i else i) % 2147483629, ?_, by simpa using h⟩
        rw [hs2, filter_all, List.map_map, List.map_map]
        rfl
      have hp2 : s2[s.length]? = some (.dK []) := ps2.get app_new
      have sl : st.length < s.length := (List.getElem?_eq_some_iff.mp hws).1
      have l2 := ps2.len
      simp at l2 hcs
      refine ⟨hp2, _, rfl, Nat.le_of_ble_eq_true rfl, s.length, st.length, s.length + 1, rfl, ⟨0, 0, ws, cs, ?_, ?_, ?_, by omega, by omega, by omega, by omega, by omega, hwl, hcl⟩, ?_, by omega, by omega, by omega⟩
      · have := List.getElem?_set_self (l := s2) (i := s.length) (a := O.dK (dkv st.length (s.length + 1) 0 0)) (by omega)
        rw [show (s ++ [O.dK []]).length = s.length + 1 by simp]
        exact this
      · rw [List.getElem?_set_ne (by omega)]
        exact ps2.get (app_get hws)
      · rw [List.getElem?_set_ne (by omega)]
        exact hcs
      · exact (ps.trans ((Pre.app _ _).trans ps2)).setNew (by omega)
end S3

set_option maxHeartbeats 4000000
/-! S5A: values; what stands for them in the store; slots; what a reading may change. -/
namespace S3
open PySem PyProof.Rows L2

/-- values -/
inductive P where
  | non
  | bl (b : Bool)
  | int (i : Int)
  | str (x : Str)
  | tup (xs : List P)
  | lst (xs : List P)
  | tcon (xs : List P)
  | lcon (xs : List P)
  | dK (kvs : List (Key × P))
  | dT (kvs : List (List Key × P))
  | drw (b : Nat)
  | exn (c : Nat)
  | fn (i : Nat)
  | cl (i : Nat)
  | ty (s : String)

mutual
/-- d stands for v, by what is frozen -/
inductive Un (Z : Nat → Prop) (st : Sto) : D → P → Prop
  | non : Un Z st .non .non
  | bl (b : Bool) : Un Z st (.bl b) (.bl b)
  | int (i : Int) : Un Z st (.int i) (.int i)
  | str (x : Str) : Un Z st (.str x) (.str x)
  | tup {ds : List D} {vs : List P} : UnA Z st ds vs → Un Z st (.tup ds) (.tup vs)
  | tcon {ds : List D} {vs : List P} : UnA Z st ds vs → Un Z st (.tcon ds) (.tcon vs)
  | lcon {ds : List D} {vs : List P} : UnA Z st ds vs → Un Z st (.lcon ds) (.lcon vs)
  | lst {n : Nat} {ds : List D} {vs : List P} : Z n → st[n]? = some (.lst ds) → UnA Z st ds vs → Un Z st (.loc n) (.lst vs)
  | dK {n : Nat} {kvs : List (Key × D)} {us : List (Key × P)} : Z n → st[n]? = some (.dK kvs) → kvs.map (·.1) = us.map (·.1) → UnA Z st (kvs.map (·.2)) (us.map (·.2)) → Un Z st (.loc n) (.dK us)
  | dT {n : Nat} {kvs : List (List Key × D)} {us : List (List Key × P)} : Z n → st[n]? = some (.dT kvs) → kvs.map (·.1) = us.map (·.1) → UnA Z st (kvs.map (·.2)) (us.map (·.2)) → Un Z st (.loc n) (.dT us)
  | exn (c : Nat) : Un Z st (.exn c) (.exn c)
  | fn (i : Nat) : Un Z st (.fn i) (.fn i)
  | cl (i : Nat) : Un Z st (.cl i) (.cl i)
  | ty (s : String) : Un Z st (.ty s) (.ty s)
inductive UnA (Z : Nat → Prop) (st : Sto) : List D → List P → Prop
  | nil : UnA Z st [] []
  | cons {d : D} {v : P} {ds : List D} {vs : List P} : Un Z st d v → UnA Z st ds vs → UnA Z st (d :: ds) (v :: vs)
end
mutual
theorem Un.mono {Z Z' : Nat → Prop} {st st' : Sto} (h1 : ∀ n, Z n → Z' n) (h2 : ∀ n, Z n → st'[n]? = st[n]?) : ∀ {d : D} {v : P}, Un Z st d v → Un Z' st' d v
  | _, _, .non => .non
  | _, _, .bl b => .bl b
  | _, _, .int b => .int b
  | _, _, .str b => .str b
  | _, _, .tup a => .tup (a.mono h1 h2)
  | _, _, .tcon a => .tcon (a.mono h1 h2)
  | _, _, .lcon a => .lcon (a.mono h1 h2)
  | _, _, .lst z e a => .lst (h1 _ z) ((h2 _ z).trans e) (a.mono h1 h2)
  | _, _, .dK z e k a => .dK (h1 _ z) ((h2 _ z).trans e) k (a.mono h1 h2)
  | _, _, .dT z e k a => .dT (h1 _ z) ((h2 _ z).trans e) k (a.mono h1 h2)
  | _, _, .exn b => .exn b
  | _, _, .fn b => .fn b
  | _, _, .cl b => .cl b
  | _, _, .ty b => .ty b
theorem UnA.mono {Z Z' : Nat → Prop} {st st' : Sto} (h1 : ∀ n, Z n → Z' n) (h2 : ∀ n, Z n → st'[n]? = st[n]?) : ∀ {d : List D} {v : List P}, UnA Z st d v → UnA Z' st' d v
  | _, _, .nil => .nil
  | _, _, .cons a b => .cons (a.mono h1 h2) (b.mono h1 h2)
end
section
variable {Z : Nat → Prop} {st : Sto}
theorem UnA.length : ∀ {ds : List D} {vs : List P}, UnA Z st ds vs → ds.length = vs.length
  | _, _, .nil => rfl
  | _, _, .cons _ a => by rw [List.length_cons, List.length_cons, a.length]
theorem UnA.get : ∀ {ds : List D} {vs : List P} {i : Nat} {v : P}, UnA Z st ds vs → vs[i]? = some v → ∃ d, ds[i]? = some d ∧ Un Z st d v
  | _, _, _, _, .nil, e => by simp at e
  | _, _, 0, _, .cons r _, e => by simp at e; subst e; exact ⟨_, rfl, r⟩
  | _, _, i + 1, d, .cons _ t, e => by
    obtain ⟨u, h1, h2⟩ := UnA.get (i := i) (v := d) t (by simpa using e)
    exact ⟨u, by simpa using h1, h2⟩
theorem UnA.getD : ∀ {ds : List D} {vs : List P} {i : Nat} {d : D}, UnA Z st ds vs → ds[i]? = some d → ∃ v, vs[i]? = some v ∧ Un Z st d v
  | _, _, _, _, .nil, e => by simp at e
  | _, _, 0, _, .cons r _, e => by simp at e; subst e; exact ⟨_, rfl, r⟩
  | _, _, i + 1, d, .cons _ t, e => by
    obtain ⟨u, h1, h2⟩ := UnA.getD (i := i) (d := d) t (by simpa using e)
    exact ⟨u, by simpa using h1, h2⟩
theorem UnA.append : ∀ {ds es : List D} {vs us : List P}, UnA Z st ds vs → UnA Z st es us → UnA Z st (ds ++ es) (vs ++ us)
  | _, _, _, _, .nil, s => s
  | _, _, _, _, .cons r t, s => .cons r (UnA.append t s)
theorem UnA.take : ∀ {ds : List D} {vs : List P} (n : Nat), UnA Z st ds vs → UnA Z st (ds.take n) (vs.take n)
  | _, _, 0, _ => .nil
  | _, _, _ + 1, .nil => .nil
  | _, _, n + 1, .cons r t => .cons r (UnA.take n t)
theorem UnA.drop : ∀ {ds : List D} {vs : List P} (n : Nat), UnA Z st ds vs → UnA Z st (ds.drop n) (vs.drop n)
  | _, _, 0, r => r
  | _, _, _ + 1, .nil => .nil
  | _, _, n + 1, .cons _ t => UnA.drop n t
theorem UnA.set {d : D} {v : P} (r : Un Z st d v) : ∀ {ds : List D} {vs : List P} (i : Nat), UnA Z st ds vs → UnA Z st (ds.set i d) (vs.set i v)
  | _, _, _, .nil => .nil
  | _, _, 0, .cons _ t => .cons r t
  | _, _, i + 1, .cons q t => .cons q (UnA.set r i t)
theorem UnA.eraseIdx : ∀ {ds : List D} {vs : List P} (i : Nat), UnA Z st ds vs → UnA Z st (ds.eraseIdx i) (vs.eraseIdx i)
  | _, _, _, .nil => .nil
  | _, _, 0, .cons _ t => t
  | _, _, i + 1, .cons q t => .cons q (UnA.eraseIdx i t)
theorem UnA.reverse : ∀ {ds : List D} {vs : List P}, UnA Z st ds vs → UnA Z st ds.reverse vs.reverse
  | _, _, .nil => .nil
  | _, _, .cons h a => by
    rw [List.reverse_cons, List.reverse_cons]
    exact a.reverse.append (.cons h .nil)
theorem UnA.dropLast : ∀ {ds : List D} {vs : List P}, UnA Z st ds vs → UnA Z st ds.dropLast vs.dropLast
  | _, _, .nil => .nil
  | _, _, .cons _ .nil => .nil
  | _, _, .cons h (.cons k a) => .cons h (UnA.dropLast (.cons k a))
end

/-- the draw at p -/
structure DrwC (st : Sto) (p w c : Nat) (b : Nat) : Prop where
  ex : ∃ r t ws cs, DrwX st p w c r t ws cs (2 ^ 39) ∧ t + b ≤ 2 ^ 39
theorem DrwX.len {st : Sto} {p w c : Nat} {r t : Int} {ws cs : List Int} {T : Nat} (x : DrwX st p w c r t ws cs T) : p < st.length ∧ w < st.length ∧ c < st.length := ⟨(List.getElem?_eq_some_iff.mp x.hp).1, (List.getElem?_eq_some_iff.mp x.hw).1, (List.getElem?_eq_some_iff.mp x.hc).1⟩
theorem DrwX.keep {st st' : Sto} {p w c : Nat} {r t : Int} {ws cs : List Int} {T : Nat} (x : DrwX st p w c r t ws cs T) (h1 : st'[p]? = st[p]?) (h2 : st'[w]? = st[w]?) (h3 : st'[c]? = st[c]?) : DrwX st' p w c r t ws cs T := ⟨h1.trans x.hp, h2.trans x.hw, h3.trans x.hc, x.pw, x.pc, x.wc, x.t0, x.tT, x.wl, x.cl⟩

/-- d stands for v, and the places fp are no one else's -/
inductive Con (Z : Nat → Prop) (st : Sto) : List Nat → D → P → Prop
  | lst {n : Nat} {ds : List D} {vs : List P} : st[n]? = some (.lst ds) → UnA Z st ds vs → Con Z st [n] (.loc n) (.lst vs)
  | dK {n : Nat} {kvs : List (Key × D)} {us : List (Key × P)} : st[n]? = some (.dK kvs) → kvs.map (·.1) = us.map (·.1) → UnA Z st (kvs.map (·.2)) (us.map (·.2)) → Con Z st [n] (.loc n) (.dK us)
  | dT {n : Nat} {kvs : List (List Key × D)} {us : List (List Key × P)} : st[n]? = some (.dT kvs) → kvs.map (·.1) = us.map (·.1) → UnA Z st (kvs.map (·.2)) (us.map (·.2)) → Con Z st [n] (.loc n) (.dT us)
  | drw {p w c b : Nat} : DrwC st p w c b → Con Z st [p, w, c] (.loc p) (.drw b)
theorem Con.mono {Z Z' : Nat → Prop} {st st' : Sto} {fp : List Nat} {d : D} {v : P} (h1 : ∀ n, Z n → Z' n) (h2 : ∀ n, Z n → st'[n]? = st[n]?) (h3 : ∀ n, n ∈ fp → st'[n]? = st[n]?) (h : Con Z st fp d v) : Con Z' st' fp d v := by
  cases h with
  | lst e a => exact .lst ((h3 _ (by simp)).trans e) (a.mono h1 h2)
  | dK e k a => exact .dK ((h3 _ (by simp)).trans e) k (a.mono h1 h2)
  | dT e k a => exact .dT ((h3 _ (by simp)).trans e) k (a.mono h1 h2)
  | drw e =>
    obtain ⟨r, t, ws, cs, x, q⟩ := e.ex
    exact .drw ⟨r, t, ws, cs, x.keep (h3 _ (by simp)) (h3 _ (by simp)) (h3 _ (by simp)), q⟩
theorem Con.lt {Z : Nat → Prop} {st : Sto} {fp : List Nat} {d : D} {v : P} (h : Con Z st fp d v) : ∀ n ∈ fp, n < st.length := by
  cases h with
  | lst e a => intro n hn; simp at hn; subst hn; exact (List.getElem?_eq_some_iff.mp e).1
  | dK e k a => intro n hn; simp at hn; subst hn; exact (List.getElem?_eq_some_iff.mp e).1
  | dT e k a => intro n hn; simp at hn; subst hn; exact (List.getElem?_eq_some_iff.mp e).1
  | drw e =>
    obtain ⟨r, t, ws, cs, x, q⟩ := e.ex
    obtain ⟨h1, h2, h3⟩ := x.len
    intro n hn
    simp at hn
    rcases hn with rfl | rfl | rfl <;> assumption
/-- what can be frozen -/
def frz : P → Bool
  | .drw _ => false
  | _ => true
theorem Con.freeze {Z Z' : Nat → Prop} {st : Sto} {fp : List Nat} {d : D} {v : P} (h : Con Z st fp d v) (hf : frz v = true) (h1 : ∀ n, Z n → Z' n) (h2 : ∀ n ∈ fp, Z' n) : Un Z' st d v := by
  cases h with
  | lst e a => exact .lst (h2 _ (by simp)) e (a.mono h1 fun _ _ => rfl)
  | dK e k a => exact .dK (h2 _ (by simp)) e k (a.mono h1 fun _ _ => rfl)
  | dT e k a => exact .dT (h2 _ (by simp)) e k (a.mono h1 fun _ _ => rfl)
  | drw e => cases hf

/-- slots: nothing known, shared, own, lent; what a function handed in has captured -/
inductive Sl where
  | no
  | sh (v : P)
  | ow (v : P)
  | pa (v : P)
  | cap (cs : List D) (vs : List P)
abbrev PEnv := List Sl
structure Cf where
  Z : Nat → Prop
  fp : Nat → List Nat
  env : Env3
  st : Sto
  pe : PEnv
structure RE (c : Cf) : Prop where
  len : c.env.length = c.pe.length
  sh : ∀ (i : Nat) (v : P), c.pe[i]? = some (Sl.sh v) → ∃ d, c.env[i]? = some (some d) ∧ Un c.Z c.st d v
  ow : ∀ (i : Nat) (v : P), c.pe[i]? = some (Sl.ow v) → ∃ d, c.env[i]? = some (some d) ∧ Con c.Z c.st (c.fp i) d v
  pa : ∀ (i : Nat) (v : P), c.pe[i]? = some (Sl.pa v) → ∃ d, c.env[i]? = some (some d) ∧ Con c.Z c.st (c.fp i) d v
  fz : ∀ i n, n ∈ c.fp i → ∃ v, c.pe[i]? = some (Sl.ow v) ∨ c.pe[i]? = some (Sl.pa v)
  nz : ∀ i n, n ∈ c.fp i → ¬ c.Z n
  dj : ∀ i j n, n ∈ c.fp i → n ∈ c.fp j → i = j
  zb : ∀ n, c.Z n → n < c.st.length
  cap : ∀ (i : Nat) (cs : List D) (vs : List P), c.pe[i]? = some (Sl.cap cs vs) → UnA c.Z c.st cs vs
theorem RE.lt {c : Cf} (r : RE c) {i n : Nat} (h : n ∈ c.fp i) : n < c.st.length := by
  obtain ⟨v, e | e⟩ := r.fz i n h
  · obtain ⟨d, _, k⟩ := r.ow i v e
    exact k.lt n h
  · obtain ⟨d, _, k⟩ := r.pa i v e
    exact k.lt n h
/-- what a reading may change -/
structure Fr (a b : Cf) : Prop where
  z : ∀ n, a.Z n → b.Z n
  zn : ∀ n, b.Z n → a.Z n ∨ (∃ i, n ∈ a.fp i) ∨ a.st.length ≤ n
  fpn : ∀ i n, n ∈ b.fp i → n ∈ a.fp i ∨ a.st.length ≤ n
  keep : ∀ n, n < a.st.length → (∀ i, n ∉ a.fp i) → b.st[n]? = a.st[n]?
  len : a.st.length ≤ b.st.length
  pa : ∀ (i : Nat) (v : P), a.pe[i]? = some (Sl.pa v) → (∃ v', b.pe[i]? = some (Sl.pa v')) ∧ b.fp i = a.fp i ∧ b.env[i]? = a.env[i]?
  pel : b.pe.length = a.pe.length
theorem Fr.refl (a : Cf) : Fr a a := ⟨fun _ h => h, fun _ h => .inl h, fun _ _ h => .inl h, fun _ _ _ => rfl, Nat.le_refl _, fun i v h => ⟨⟨v, h⟩, rfl, rfl⟩, rfl⟩
theorem Fr.trans {a b c : Cf} (h : Fr a b) (k : Fr b c) : Fr a c where
  z n x := k.z n (h.z n x)
  zn n x := by
    rcases k.zn n x with y | ⟨i, y⟩ | y
    · exact h.zn n y
    · rcases h.fpn i n y with z | z
      · exact .inr (.inl ⟨i, z⟩)
      · exact .inr (.inr z)
    · exact .inr (.inr (Nat.le_trans h.len y))
  fpn i n x := by
    rcases k.fpn i n x with y | y
    · exact h.fpn i n y
    · exact .inr (Nat.le_trans h.len y)
  keep n x y := (k.keep n (Nat.lt_of_lt_of_le x h.len) fun i z => by
    rcases h.fpn i n z with u | u
    · exact y i u
    · omega).trans (h.keep n x y)
  len := Nat.le_trans h.len k.len
  pa i v x := by
    obtain ⟨⟨v1, x1⟩, f1, e1⟩ := h.pa i v x
    obtain ⟨y, f2, e2⟩ := k.pa i v1 x1
    exact ⟨y, f2.trans f1, e2.trans e1⟩
  pel := k.pel.trans h.pel
/-- frozen places stay -/
theorem Fr.keepZ {a b : Cf} (h : Fr a b) (r : RE a) {n : Nat} (z : a.Z n) : b.st[n]? = a.st[n]? := h.keep n (r.zb n z) fun i q => r.nz i n q z
theorem Fr.un {a b : Cf} (h : Fr a b) (r : RE a) {d : D} {v : P} (u : Un a.Z a.st d v) : Un b.Z b.st d v := u.mono h.z fun _ z => h.keepZ r z
theorem Fr.unA {a b : Cf} (h : Fr a b) (r : RE a) {d : List D} {v : List P} (u : UnA a.Z a.st d v) : UnA b.Z b.st d v := u.mono h.z fun _ z => h.keepZ r z

/-! ### what an expression gives -/
inductive Opd where
  | s (v : P)
  | o (v : P)
  | k (i : Nat)
abbrev PM (α : Type) := PEnv → (R3 α → PEnv → Prop) → Prop
/-- a place just laid, no one's -/
structure Tmp (a b : Cf) (n : Nat) : Prop where
  nz : ¬ b.Z n
  nf : ∀ i, n ∉ b.fp i
  new : a.st.length ≤ n
theorem Tmp.on {a b c : Cf} {n : Nat} (t : Tmp a b n) (h : Fr b c) (hn : n < b.st.length) : Tmp a c n := ⟨fun z => by
  rcases h.zn n z with y | ⟨i, y⟩ | y
  · exact t.nz y
  · exact t.nf i y
  · omega, fun i z => by
  rcases h.fpn i n z with y | y
  · exact t.nf i y
  · omega, t.new⟩
theorem Tmp.back {a a' b : Cf} {n : Nat} (t : Tmp a' b n) (h : a.st.length ≤ a'.st.length) : Tmp a b n := ⟨t.nz, t.nf, Nat.le_trans h t.new⟩
def RelO (c : Cf) (fr : List Nat) (d : D) : Opd → Prop
  | .s v => Un c.Z c.st d v
  | .o v => Con c.Z c.st fr d v
  | .k i => c.env[i]? = some (some d)
def RelR (a b : Cf) : R3 Opd → R3 D → Prop
  | .ok o, .ok d => ∃ fr : List Nat, (∀ n ∈ fr, Tmp a b n ∧ n < b.st.length) ∧ RelO b fr d o
  | .er i, .er j => i = j
  | _, _ => False
def SdE (f : F3 D) (p : PM Opd) : Prop := ∀ a : Cf, RE a → ∀ Q, p a.pe Q → ∃ r r3 b, f a.env a.st = some (r3, b.st) ∧ b.env = a.env ∧ RE b ∧ Fr a b ∧ Q r b.pe ∧ RelR a b r r3
def RelO.on {a b : Cf} {fr : List Nat} {d : D} {o : Opd} (h : RelO a fr d o) (r : RE a) (f : Fr a b) (e : b.env = a.env) (ht : ∀ n ∈ fr, (∀ i, n ∉ a.fp i) ∧ n < a.st.length) : RelO b fr d o := by
  cases o with
  | s v => exact f.un r h
  | o v => exact h.mono f.z (fun _ z => f.keepZ r z) fun n hn => f.keep n (ht n hn).2 (ht n hn).1
  | k i => show b.env[i]? = _; rw [e]; exact h
def slv : Sl → Option P
  | .sh v => some v
  | .ow v => some v
  | .pa v => some v
  | .no => none
  | .cap _ _ => none
def slo (pe : PEnv) (i : Nat) : Option P := match pe[i]? with
  | some x => slv x
  | none => none
/-- an operand's value -/
def opv (pe : PEnv) : Opd → Option P
  | .s v => some v
  | .o v => some v
  | .k i => slo pe i
def Vw (c : Cf) (d : D) (v : P) : Prop := Un c.Z c.st d v ∨ ∃ fr, Con c.Z c.st fr d v
theorem RelO.vw {c : Cf} {fr : List Nat} {d : D} {o : Opd} {v : P} (h : RelO c fr d o) (r : RE c) (e : opv c.pe o = some v) : Vw c d v := by
  cases o with
  | s u => cases e; exact .inl h
  | o u => cases e; exact .inr ⟨fr, h⟩
  | k i =>
    have h : c.env[i]? = some (some d) := h
    have e : slo c.pe i = some v := e
    unfold slo at e
    split at e
    · rename_i x hx
      cases x with
      | no => cases e
      | cap _ _ => cases e
      | sh u =>
        cases e
        obtain ⟨d', h1, h2⟩ := r.sh i _ hx
        rw [h] at h1
        cases h1
        exact .inl h2
      | ow u =>
        cases e
        obtain ⟨d', h1, h2⟩ := r.ow i _ hx
        rw [h] at h1
        cases h1
        exact .inr ⟨_, h2⟩
      | pa u =>
        cases e
        obtain ⟨d', h1, h2⟩ := r.pa i _ hx
        rw [h] at h1
        cases h1
        exact .inr ⟨_, h2⟩
    · cases e
end S3

set_option maxHeartbeats 4000000
/-! S5B: expressions over values, and that the functions follow them. -/
namespace S3
open PySem PyProof.Rows L2

/-! ### freezing -/
def lk1 (o : Opd) (pe : PEnv) : Option (P × PEnv) := match o with
  | .s v => some (v, pe)
  | .o v => if frz v = true then some (v, pe) else none
  | .k i => match pe[i]? with
    | some (.sh v) => some (v, pe)
    | some (.ow v) => if frz v = true then some (v, pe.set i (.sh v)) else none
    | _ => none
def lkA : List Opd → PEnv → Option (List P × PEnv)
  | [], pe => some ([], pe)
  | o :: os, pe => match lk1 o pe with
    | some (v, pe1) => match lkA os pe1 with
      | some (vs, pe2) => some (v :: vs, pe2)
      | none => none
    | none => none
structure Lk (a b c : Cf) (fr : List Nat) : Prop where
  re : RE c
  fr_ : Fr a c
  env : c.env = b.env
  st : c.st = b.st
  z : ∀ n, b.Z n → c.Z n
  zn : ∀ n, c.Z n → b.Z n ∨ n ∈ fr ∨ ∃ i, n ∈ b.fp i
  fp : ∀ i n, n ∈ c.fp i → n ∈ b.fp i
theorem leak1 {a b : Cf} {fr : List Nat} {d : D} {o : Opd} {v : P} {pe' : PEnv} (r : RE b) (f : Fr a b) (h : RelO b fr d o) (ht : ∀ n ∈ fr, Tmp a b n ∧ n < b.st.length) (e : lk1 o b.pe = some (v, pe')) : ∃ c, c.pe = pe' ∧ Un c.Z c.st d v ∧ Lk a b c fr := by
  unfold lk1 at e
  split at e
  · cases e
    exact ⟨b, rfl, h, r, f, rfl, rfl, fun _ z => z, fun _ z => .inl z, fun _ _ z => z⟩
  · split at e
    · rename_i hf
      cases e
      have h : Con b.Z b.st fr d v := h
      refine ⟨{ b with Z := fun n => b.Z n ∨ n ∈ fr }, rfl, h.freeze hf (fun _ z => .inl z) (fun _ z => .inr z), ⟨r.len, fun i v e => ?_, fun i v e => ?_, fun i v e => ?_, r.fz, fun i n z y => ?_, r.dj, fun n z => ?_, fun i cs vs e => (r.cap i cs vs e).mono (fun _ z => .inl z) fun _ _ => rfl⟩, ⟨fun n z => .inl (f.z n z), fun n z => ?_, f.fpn, f.keep, f.len, f.pa, f.pel⟩, rfl, rfl, fun _ z => .inl z, fun n z => ?_, fun _ _ z => z⟩
      · obtain ⟨d, h1, h2⟩ := r.sh i v e
        exact ⟨d, h1, h2.mono (fun _ z => .inl z) fun _ _ => rfl⟩
      · obtain ⟨d, h1, h2⟩ := r.ow i v e
        exact ⟨d, h1, h2.mono (fun _ z => .inl z) (fun _ _ => rfl) fun _ _ => rfl⟩
      · obtain ⟨d, h1, h2⟩ := r.pa i v e
        exact ⟨d, h1, h2.mono (fun _ z => .inl z) (fun _ _ => rfl) fun _ _ => rfl⟩
      · rcases y with y | y
        · exact r.nz i n z y
        · exact (ht n y).1.nf i z
      · rcases z with z | z
        · exact r.zb n z
        · exact (ht n z).2
      · rcases z with z | z
        · exact f.zn n z
        · exact .inr (.inr (ht n z).1.new)
      · rcases z with z | z
        · exact .inl z
        · exact .inr (.inl z)
    · cases e
  · rename_i i
    have h : b.env[i]? = some (some d) := h
    split at e
    · rename_i u hu
      cases e
      obtain ⟨d', h1, h2⟩ := r.sh i v hu
      rw [h] at h1
      cases h1
      exact ⟨b, rfl, h2, r, f, rfl, rfl, fun _ z => z, fun _ z => .inl z, fun _ _ z => z⟩
    · rename_i u hu
      split at e
      · rename_i hf
        cases e
        obtain ⟨d', h1, h2⟩ := r.ow i v hu
        rw [h] at h1
        cases h1
        have hi : i < b.pe.length := (List.getElem?_eq_some_iff.mp hu).1
        have un : Un (fun n => b.Z n ∨ n ∈ b.fp i) b.st d v := h2.freeze hf (fun _ z => .inl z) (fun _ z => .inr z)
        have fpx : ∀ j n, n ∈ (if j = i then [] else b.fp j) → j ≠ i ∧ n ∈ b.fp j := fun j n z => by
          by_cases hj : j = i
          · rw [if_pos hj] at z
            simp at z
          · rw [if_neg hj] at z
            exact ⟨hj, z⟩
        have getne : ∀ {j : Nat} {x : Sl}, (b.pe.set i (.sh v))[j]? = some x → (∀ u, x ≠ .sh u) → i ≠ j ∧ b.pe[j]? = some x := fun {j x} e hx => by
          by_cases hj : i = j
          · subst hj
            rw [List.getElem?_set_self hi] at e
            cases e
            exact absurd rfl (hx v)
          · rw [List.getElem?_set_ne hj] at e
            exact ⟨hj, e⟩
        refine ⟨⟨fun n => b.Z n ∨ n ∈ b.fp i, fun j => if j = i then [] else b.fp j, b.env, b.st, b.pe.set i (.sh v)⟩, rfl, un, ⟨?_, fun j u e => ?_, fun j u e => ?_, fun j u e => ?_, fun j n z => ?_, fun j n z y => ?_, fun j k n z y => ?_, fun n z => ?_, fun j cs vs e => (r.cap j cs vs (getne e (by intro u z; cases z)).2).mono (fun _ z => .inl z) fun _ _ => rfl⟩, ⟨fun n z => .inl (f.z n z), fun n z => ?_, fun j n z => f.fpn j n (fpx j n z).2, f.keep, f.len, fun j u e => ?_, by simpa using f.pel⟩, rfl, rfl, fun _ z => .inl z, fun n z => ?_, fun j n z => (fpx j n z).2⟩
        · simp [r.len]
        · by_cases hj : i = j
          · subst hj
            have e : (b.pe.set i (.sh v))[i]? = some (Sl.sh u) := e
            rw [List.getElem?_set_self hi] at e
            cases e
            exact ⟨d, h, un⟩
          · have e : (b.pe.set i (.sh v))[j]? = some (Sl.sh u) := e
            rw [List.getElem?_set_ne hj] at e
            obtain ⟨d2, k1, k2⟩ := r.sh j u e
            exact ⟨d2, k1, k2.mono (fun _ z => .inl z) fun _ _ => rfl⟩
        · obtain ⟨hj, e⟩ := getne e (by intro u z; cases z)
          obtain ⟨d2, k1, k2⟩ := r.ow j u e
          refine ⟨d2, k1, ?_⟩
          show Con _ _ (if j = i then [] else b.fp j) _ _
          rw [if_neg (Ne.symm hj)]
          exact k2.mono (fun _ z => .inl z) (fun _ _ => rfl) fun _ _ => rfl
        · obtain ⟨hj, e⟩ := getne e (by intro u z; cases z)
          obtain ⟨d2, k1, k2⟩ := r.pa j u e
          refine ⟨d2, k1, ?_⟩
          show Con _ _ (if j = i then [] else b.fp j) _ _
          rw [if_neg (Ne.symm hj)]
          exact k2.mono (fun _ z => .inl z) (fun _ _ => rfl) fun _ _ => rfl
        · obtain ⟨hj, z⟩ := fpx j n z
          obtain ⟨w, hw⟩ := r.fz j n z
          refine ⟨w, ?_⟩
          show (b.pe.set i (.sh v))[j]? = _ ∨ (b.pe.set i (.sh v))[j]? = _
          rw [List.getElem?_set_ne (Ne.symm hj)]
          exact hw
        · obtain ⟨hj, z⟩ := fpx j n z
          rcases y with y | y
          · exact r.nz j n z y
          · exact hj (r.dj j i n z y)
        · exact r.dj j k n (fpx j n z).2 (fpx k n y).2
        · rcases z with z | z
          · exact r.zb n z
          · exact r.lt z
        · rcases z with z | z
          · exact f.zn n z
          · rcases f.fpn i n z with y | y
            · exact .inr (.inl ⟨i, y⟩)
            · exact .inr (.inr y)
        · obtain ⟨⟨u', x1⟩, x2, x3⟩ := f.pa j u e
          have hj : i ≠ j := fun q => by
            subst q
            rw [hu] at x1
            cases x1
          refine ⟨⟨u', ?_⟩, ?_, x3⟩
          · show (b.pe.set i (.sh v))[j]? = _
            rw [List.getElem?_set_ne hj]
            exact x1
          · show (if j = i then [] else b.fp j) = _
            rw [if_neg (Ne.symm hj)]
            exact x2
        · rcases z with z | z
          · exact .inl z
          · exact .inr (.inr ⟨i, z⟩)
      · cases e
    · cases e

/-! ### arguments -/
def RelAs (b : Cf) : List (List Nat) → List D → List Opd → Prop
  | [], [], [] => True
  | fr :: frs, d :: ds, o :: os => RelO b fr d o ∧ RelAs b frs ds os
  | _, _, _ => False
structure RelA (a b : Cf) (ds : List D) (os : List Opd) : Prop where
  ex : ∃ frs : List (List Nat), RelAs b frs ds os ∧ (∀ fr ∈ frs, ∀ n ∈ fr, Tmp a b n ∧ n < b.st.length) ∧ frs.Pairwise fun x y => ∀ n ∈ x, n ∉ y
theorem Lk.relO {a b c : Cf} {fr fr2 : List Nat} {d : D} {o : Opd} (l : Lk a b c fr) (h : RelO b fr2 d o) : RelO c fr2 d o := by
  cases o with
  | s v =>
    show Un c.Z c.st d v
    rw [l.st]
    exact h.mono l.z fun _ _ => rfl
  | o v =>
    show Con c.Z c.st fr2 d v
    rw [l.st]
    exact h.mono l.z (fun _ _ => rfl) fun _ _ => rfl
  | k i =>
    show c.env[i]? = _
    rw [l.env]
    exact h
theorem Lk.relAs {a b c : Cf} {fr : List Nat} (l : Lk a b c fr) : ∀ {frs : List (List Nat)} {ds : List D} {os : List Opd}, RelAs b frs ds os → RelAs c frs ds os
  | [], [], [], h => h
  | _ :: _, _ :: _, _ :: _, h => ⟨l.relO h.1, l.relAs h.2⟩
theorem RelAs.nil {b : Cf} {frs : List (List Nat)} {ds : List D} (h : RelAs b frs ds []) : frs = [] ∧ ds = [] := by
  cases frs <;> cases ds <;> first | exact ⟨rfl, rfl⟩ | exact h.elim
theorem RelAs.cons {b : Cf} {frs : List (List Nat)} {ds : List D} {o : Opd} {os : List Opd} (h : RelAs b frs ds (o :: os)) : ∃ fr frs' d ds', frs = fr :: frs' ∧ ds = d :: ds' ∧ RelO b fr d o ∧ RelAs b frs' ds' os := by
  cases frs <;> cases ds <;> first | exact ⟨_, _, _, _, rfl, rfl, h.1, h.2⟩ | exact h.elim
theorem bnd_ok {α β : Type} {f : F3 α} {k : α → F3 β} {env : Env3} {st st1 : Sto} {a : α} (h : f env st = some (.ok a, st1)) : bnd f k env st = k a env st1 := by
  unfold bnd
  rw [h]
theorem bnd_er {α β : Type} {f : F3 α} {k : α → F3 β} {env : Env3} {st st1 : Sto} {c : Nat} (h : f env st = some (.er c, st1)) : bnd f k env st = some (.er c, st1) := by
  unfold bnd
  rw [h]
theorem leakA {a : Cf} : ∀ {os : List Opd} {frs : List (List Nat)} {ds : List D} {b : Cf} {vs : List P} {pe' : PEnv}, RE b → Fr a b → RelAs b frs ds os → (∀ fr ∈ frs, ∀ n ∈ fr, Tmp a b n ∧ n < b.st.length) → (frs.Pairwise fun x y => ∀ n ∈ x, n ∉ y) → lkA os b.pe = some (vs, pe') → ∃ c, c.pe = pe' ∧ c.env = b.env ∧ c.st = b.st ∧ RE c ∧ Fr a c ∧ UnA c.Z c.st ds vs ∧ ∀ n, b.Z n → c.Z n
  | [], frs, ds, b, vs, pe', r, f, h, ht, hp, e => by
    obtain ⟨rfl, rfl⟩ := h.nil
    cases e
    exact ⟨b, rfl, rfl, rfl, r, f, .nil, fun _ z => z⟩
  | o :: os, frs, ds, b, vs, pe', r, f, h, ht, hp, e => by
    obtain ⟨fr, frs, d, ds, rfl, rfl, h⟩ := h.cons
    unfold lkA at e
    split at e
    · rename_i v pe1 e1
      split at e
      · rename_i vs2 pe2 e2
        cases e
        obtain ⟨c, rfl, un, l⟩ := leak1 r f h.1 (ht fr (by simp)) e1
        rw [List.pairwise_cons] at hp
        obtain ⟨c2, h1, h2, h3, h4, h5, h6, h7⟩ := leakA (a := a) l.re l.fr_ (l.relAs h.2) (fun fr2 hf n hn => by
          obtain ⟨t, tl⟩ := ht fr2 (by simp [hf]) n hn
          refine ⟨⟨fun z => ?_, fun i z => t.nf i (l.fp i n z), t.new⟩, by rw [l.st]; exact tl⟩
          rcases l.zn n z with y | y | ⟨i, y⟩
          · exact t.nz y
          · exact hp.1 fr2 hf n y hn
          · exact t.nf i y) hp.2 e2
        refine ⟨c2, h1, h2.trans l.env, h3.trans l.st, h4, h5, .cons (un.mono h7 fun _ _ => by rw [h3]) h6, fun n z => h7 n (l.z n z)⟩
      · cases e
    · cases e
theorem RelA.leak {a b : Cf} {ds : List D} {os : List Opd} {vs : List P} {pe' : PEnv} (h : RelA a b ds os) (r : RE b) (f : Fr a b) (e : lkA os b.pe = some (vs, pe')) : ∃ c, c.pe = pe' ∧ c.env = b.env ∧ c.st = b.st ∧ RE c ∧ Fr a c ∧ UnA c.Z c.st ds vs := by
  obtain ⟨frs, h1, h2, h3⟩ := h.ex
  obtain ⟨c, k1, k2, k3, k4, k5, k6, _⟩ := leakA r f h1 h2 h3 e
  exact ⟨c, k1, k2, k3, k4, k5, k6⟩

/-! ### soundness -/
def RelE (a b : Cf) (d : D) (o : Opd) : Prop := ∃ fr : List Nat, (∀ n ∈ fr, Tmp a b n ∧ n < b.st.length) ∧ RelO b fr d o
def Rr {α β : Type} (rel : Cf → Cf → α → β → Prop) (a b : Cf) : R3 β → R3 α → Prop
  | .ok y, .ok x => rel a b x y
  | .er i, .er j => i = j
  | _, _ => False
/-- what is reached from a -/
def Got {α β : Type} (rel : Cf → Cf → α → β → Prop) (a : Cf) (env : Env3) (g : Option (R3 α × Sto)) (Q : R3 β → PEnv → Prop) : Prop := ∃ r r3 b, g = some (r3, b.st) ∧ b.env = env ∧ RE b ∧ Fr a b ∧ Q r b.pe ∧ Rr rel a b r r3
def Sd {α β : Type} (rel : Cf → Cf → α → β → Prop) (f : F3 α) (p : PM β) : Prop := ∀ a : Cf, RE a → ∀ Q, p a.pe Q → Got rel a a.env (f a.env a.st) Q
abbrev RelB5 {α : Type} (_ _ : Cf) (x y : α) : Prop := x = y
abbrev SE : F3 D → PM Opd → Prop := Sd RelE
abbrev ST : F3 Bool → PM Bool → Prop := Sd RelB5
abbrev SA : F3 (List D) → PM (List Opd) → Prop := Sd RelA
def pb {α β : Type} (p : PM α) (k : α → PM β) : PM β := fun pe Q => p pe fun r pe1 => match r with
  | .ok x => k x pe1 Q
  | .er c => Q (.er c) pe1
theorem Sd.bind {α β γ δ : Type} {rel : Cf → Cf → α → β → Prop} {rel' : Cf → Cf → γ → δ → Prop} {f : F3 α} {p : PM β} {k : α → F3 γ} {k' : β → PM δ} (h : Sd rel f p) (hk : ∀ a b x y, RE a → RE b → Fr a b → b.env = a.env → rel a b x y → ∀ Q, k' y b.pe Q → Got rel' a b.env (k x b.env b.st) Q) : Sd rel' (bnd f k) (pb p k') := by
  intro a r Q hp
  obtain ⟨x, x3, b, h1, h2, h3, h4, h5, h6⟩ := h a r _ hp
  cases x with
  | ok y =>
    cases x3 with
    | ok x3 =>
      have := hk a b x3 y r h3 h4 h2 h6 Q h5
      rw [h2] at this
      unfold bnd
      rw [h1]
      exact this
    | er j => exact h6.elim
  | er i =>
    cases x3 with
    | ok x3 => exact h6.elim
    | er j =>
      refine ⟨.er i, .er j, b, ?_, h2, h3, h4, h5, h6⟩
      unfold bnd
      rw [h1]
theorem Got.mk {α β : Type} {rel : Cf → Cf → α → β → Prop} {a b : Cf} {env : Env3} {g : Option (R3 α × Sto)} {Q : R3 β → PEnv → Prop} {x : α} {y : β} (e : g = some (.ok x, b.st)) (h1 : b.env = env) (h2 : RE b) (h3 : Fr a b) (h4 : Q (.ok y) b.pe) (h5 : rel a b x y) : Got rel a env g Q := ⟨.ok y, .ok x, b, e, h1, h2, h3, h4, h5⟩

/-! ### names, constants -/
def qVar (i : Nat) : PM Opd := fun pe Q => match pe[i]? with
  | some (.sh v) => Q (.ok (.s v)) pe
  | some (.ow _) => Q (.ok (.k i)) pe
  | some (.pa _) => Q (.ok (.k i)) pe
  | _ => False
def qC {α : Type} (x : α) : PM α := fun pe Q => Q (.ok x) pe
theorem s_var (i : Nat) : SE (fVar i) (qVar i) := by
  intro a r Q h
  unfold qVar at h
  unfold fVar
  split at h
  · rename_i v hv
    obtain ⟨d, h1, h2⟩ := r.sh i v hv
    exact .mk (b := a) (x := d) (by rw [h1]) rfl r (Fr.refl a) h ⟨[], by simp, h2⟩
  · rename_i v hv
    obtain ⟨d, h1, h2⟩ := r.ow i v hv
    exact .mk (b := a) (x := d) (by rw [h1]) rfl r (Fr.refl a) h ⟨[], by simp, h1⟩
  · rename_i v hv
    obtain ⟨d, h1, h2⟩ := r.pa i v hv
    exact .mk (b := a) (x := d) (by rw [h1]) rfl r (Fr.refl a) h ⟨[], by simp, h1⟩
  · exact h.elim
theorem s_con {d : D} {v : P} (h : ∀ Z st, Un Z st d v) : SE (ret3 d) (qC (.s v)) := fun a r Q hq => .mk (b := a) (x := d) rfl rfl r (Fr.refl a) hq ⟨[], by simp, h _ _⟩
theorem s_conB {α : Type} {b : α} : Sd RelB5 (ret3 b) (qC b) := fun a r Q hq => .mk (b := a) (x := b) rfl rfl r (Fr.refl a) hq rfl

/-! ### arguments -/
def qNil : PM (List Opd) := qC []
def qCons (p : PM Opd) (q : PM (List Opd)) : PM (List Opd) := pb p fun o => pb q fun os => qC (o :: os)
theorem s_nil : SA fNil qNil := fun a r Q hq => .mk (b := a) (x := []) rfl rfl r (Fr.refl a) hq ⟨[], trivial, by simp, .nil⟩
theorem s_cons {fa : F3 D} {fr : F3 (List D)} {p : PM Opd} {q : PM (List Opd)} (h1 : SE fa p) (h2 : SA fr q) : SA (fCons fa fr) (qCons p q) := by
  refine h1.bind fun a b d o ra rb f e hr Q hq => ?_
  obtain ⟨x, x3, c, k1, k2, k3, k4, k5, k6⟩ := h2 b rb _ hq
  obtain ⟨fr, t, hr⟩ := hr
  cases x with
  | ok os =>
    cases x3 with
    | ok ds =>
      obtain ⟨frs, g1, g2, g3⟩ := k6.ex
      refine .mk (b := c) (x := d :: ds) (y := o :: os) (by unfold bnd; rw [k1]; rfl) k2 k3 (f.trans k4) k5 ⟨fr :: frs, ⟨hr.on rb k4 k2 fun n hn => ⟨(t n hn).1.nf, (t n hn).2⟩, g1⟩, fun fr' hf n hn => ?_, ?_⟩
      · rcases List.mem_cons.mp hf with rfl | hf
        · exact ⟨(t n hn).1.on k4 (t n hn).2, Nat.lt_of_lt_of_le (t n hn).2 k4.len⟩
        · exact ⟨(g2 fr' hf n hn).1.back f.len, (g2 fr' hf n hn).2⟩
      · rw [List.pairwise_cons]
        refine ⟨fun y hy n hn hn2 => ?_, g3⟩
        have := (g2 y hy n hn2).1.new
        have := (t n hn).2
        omega
    | er j => exact k6.elim
  | er i =>
    cases x3 with
    | ok ds => exact k6.elim
    | er j => exact ⟨.er i, .er j, c, by unfold bnd; rw [k1], k2, k3, f.trans k4, k5, k6⟩

/-! ### operations -/
abbrev Op (β : Type) := β → Option (Bool × P)
structure OpP {α β : Type} (V : Cf → α → β → Prop) (o : F1 α D) (q : Op β) : Prop where
  ex : ∀ (c : Cf) (x : α) (v : β) (b : Bool) (w : P), RE c → V c x v → q v = some (b, w) → ∃ z st', o x c.st = some (z, st') ∧ match b with
    | false => st' = c.st ∧ Un c.Z c.st z w
    | true => ∃ y, z = .loc c.st.length ∧ st' = c.st ++ [y] ∧ Con c.Z (c.st ++ [y]) [c.st.length] z w
def qOp {β : Type} (q : Op β) (v : Option β) : PM Opd := fun pe Q => match v with
  | some v => match q v with
    | some (true, w) => Q (.ok (.o w)) pe
    | some (false, w) => Q (.ok (.s w)) pe
    | none => False
  | none => False
theorem re_app {c : Cf} (r : RE c) (y : O) : RE { c with st := c.st ++ [y] } ∧ Fr c { c with st := c.st ++ [y] } := by
  have k : ∀ n, n < c.st.length → (c.st ++ [y])[n]? = c.st[n]? := fun n hn => List.getElem?_append_left hn
  refine ⟨⟨r.len, fun i v e => ?_, fun i v e => ?_, fun i v e => ?_, r.fz, r.nz, r.dj, fun n z => ?_, fun i cs vs e => (r.cap i cs vs e).mono (fun _ z => z) fun n z => k n (r.zb n z)⟩, ⟨fun _ z => z, fun _ z => .inl z, fun _ _ z => .inl z, fun n h _ => k n h, by simp, fun i v e => ⟨⟨v, e⟩, rfl, rfl⟩, rfl⟩⟩
  · obtain ⟨d, h1, h2⟩ := r.sh i v e
    exact ⟨d, h1, h2.mono (fun _ z => z) fun n z => k n (r.zb n z)⟩
  · obtain ⟨d, h1, h2⟩ := r.ow i v e
    exact ⟨d, h1, h2.mono (fun _ z => z) (fun n z => k n (r.zb n z)) fun n z => k n (r.lt z)⟩
  · obtain ⟨d, h1, h2⟩ := r.pa i v e
    exact ⟨d, h1, h2.mono (fun _ z => z) (fun n z => k n (r.zb n z)) fun n z => k n (r.lt z)⟩
  · have := r.zb n z
    simp
    omega
theorem got_op {α β : Type} {V : Cf → α → β → Prop} {o : F1 α D} {q : Op β} (h : OpP V o q) {a c : Cf} {x : α} {v : Option β} (r : RE c) (f : Fr a c) (hv : ∀ u, v = some u → V c x u) {Q : R3 Opd → PEnv → Prop} (hq : qOp q v c.pe Q) : Got RelE a c.env (lift o x c.env c.st) Q := by
  unfold qOp at hq
  split at hq
  · rename_i u
    split at hq
    · rename_i w hw
      obtain ⟨z, st', e, y, rfl, rfl, hc⟩ := h.ex c x u true w r (hv u rfl) hw
      obtain ⟨r2, f2⟩ := re_app r y
      refine .mk (b := { c with st := c.st ++ [y] }) (x := .loc c.st.length) (by unfold lift; rw [e]) rfl r2 (f.trans f2) hq ⟨[c.st.length], fun n hn => ?_, hc⟩
      simp at hn
      subst hn
      exact ⟨⟨fun z => absurd (r.zb _ z) (Nat.lt_irrefl _), fun i z => absurd (r.lt z) (Nat.lt_irrefl _), f.len⟩, by simp⟩
    · rename_i w hw
      obtain ⟨z, st', e, rfl, hc⟩ := h.ex c x u false w r (hv u rfl) hw
      exact .mk (b := c) (x := z) (by unfold lift; rw [e]) rfl r f hq ⟨[], by simp, hc⟩
    · exact hq.elim
  · exact hq.elim
def qU (q : Op P) (p : PM Opd) : PM Opd := pb p fun o pe Q => qOp q (opv pe o) pe Q
theorem s_U {o : F1 D D} {q : Op P} {fa : F3 D} {p : PM Opd} (ho : OpP Vw o q) (h : SE fa p) : SE (fU o fa) (qU q p) := by
  refine h.bind fun a b d o ra rb f e hr Q hq => ?_
  obtain ⟨fr, t, hr⟩ := hr
  exact got_op ho rb f (fun u hu => hr.vw rb hu) hq
abbrev Vw2 (c : Cf) (x : D × D) (v : P × P) : Prop := Vw c x.1 v.1 ∧ Vw c x.2 v.2
def opv2 (pe : PEnv) (o1 o2 : Opd) : Option (P × P) := match opv pe o1, opv pe o2 with
  | some v, some w => some (v, w)
  | _, _ => none
def qB (q : Op (P × P)) (p1 p2 : PM Opd) : PM Opd := pb p1 fun o1 => pb p2 fun o2 pe Q => qOp q (opv2 pe o1 o2) pe Q
theorem opv2_ok {pe : PEnv} {o1 o2 : Opd} {u : P × P} (h : opv2 pe o1 o2 = some u) : opv pe o1 = some u.1 ∧ opv pe o2 = some u.2 := by
  unfold opv2 at h
  split at h
  · rename_i v w h1 h2
    cases h
    exact ⟨h1, h2⟩
  · cases h
/-- two operands, one after the other -/
theorem SE.two {γ δ : Type} {rel : Cf → Cf → γ → δ → Prop} {fa fb : F3 D} {p1 p2 : PM Opd} {k : D → D → F3 γ} {k' : Opd → Opd → PM δ} (h1 : SE fa p1) (h2 : SE fb p2) (hk : ∀ a c d1 d2 o1 o2, RE a → RE c → Fr a c → c.env = a.env → RelA a c [d1, d2] [o1, o2] → ∀ Q, k' o1 o2 c.pe Q → Got rel a c.env (k d1 d2 c.env c.st) Q) : Sd rel (bnd fa fun x => bnd fb fun y => k x y) (pb p1 fun o1 => pb p2 fun o2 => k' o1 o2) := by
  refine h1.bind fun a b d o ra rb f e hr Q hq => ?_
  obtain ⟨fr, t, hr⟩ := hr
  obtain ⟨x, x3, c, k1, k2, k3, k4, k5, k6⟩ := h2 b rb _ hq
  cases x with
  | ok o2 =>
    cases x3 with
    | ok d2 =>
      obtain ⟨fr2, t2, hr2⟩ := k6
      have := hk a c d d2 o o2 ra k3 (f.trans k4) (k2.trans e) ⟨[fr, fr2], ⟨hr.on rb k4 k2 fun n hn => ⟨(t n hn).1.nf, (t n hn).2⟩, hr2, trivial⟩, fun fr' hf n hn => ?_, ?_⟩ Q k5
      · rw [k2] at this
        unfold bnd
        rw [k1]
        exact this
      · simp only [List.mem_cons, List.not_mem_nil, or_false] at hf
        rcases hf with rfl | rfl
        · exact ⟨(t n hn).1.on k4 (t n hn).2, Nat.lt_of_lt_of_le (t n hn).2 k4.len⟩
        · exact ⟨(t2 n hn).1.back f.len, (t2 n hn).2⟩
      · simp only [List.pairwise_cons, List.mem_cons, List.not_mem_nil, or_false, false_imp_iff, implies_true, List.Pairwise.nil, and_true]
        rintro y rfl n hn hn2
        have := (t2 n hn2).1.new
        have := (t n hn).2
        omega
    | er j => exact k6.elim
  | er i =>
    cases x3 with
    | ok ds => exact k6.elim
    | er j => exact ⟨.er i, .er j, c, by unfold bnd; rw [k1], k2, k3, f.trans k4, k5, k6⟩
theorem RelA.two {a c : Cf} {d1 d2 : D} {o1 o2 : Opd} (h : RelA a c [d1, d2] [o1, o2]) : ∃ f1 f2, RelO c f1 d1 o1 ∧ RelO c f2 d2 o2 := by
  obtain ⟨frs, h1, _⟩ := h.ex
  match frs, h1 with
  | [f1, f2], h1 => exact ⟨f1, f2, h1.1, h1.2.1⟩
theorem s_B {o : F1 (D × D) D} {q : Op (P × P)} {fa fb : F3 D} {p1 p2 : PM Opd} (ho : OpP Vw2 o q) (h1 : SE fa p1) (h2 : SE fb p2) : SE (fB o fa fb) (qB q p1 p2) :=
  h1.two h2 fun a c d1 d2 o1 o2 ra rc f e hr Q hq => by
    obtain ⟨f1, f2, g1, g2⟩ := hr.two
    refine got_op ho rc f (fun u hu => ?_) hq
    obtain ⟨k1, k2⟩ := opv2_ok hu
    exact ⟨g1.vw rc k1, g2.vw rc k2⟩
def VwA (c : Cf) : List D → List P → Prop
  | [], [] => True
  | d :: ds, v :: vs => Vw c d v ∧ VwA c ds vs
  | _, _ => False
def opvs (pe : PEnv) : List Opd → Option (List P)
  | [] => some []
  | o :: os => match opv pe o, opvs pe os with
    | some v, some vs => some (v :: vs)
    | _, _ => none
theorem RelAs.vw {c : Cf} (r : RE c) : ∀ {frs : List (List Nat)} {ds : List D} {os : List Opd} {vs : List P}, RelAs c frs ds os → opvs c.pe os = some vs → VwA c ds vs
  | [], [], [], vs, h, e => by
    cases e
    trivial
  | fr :: frs, d :: ds, o :: os, vs, h, e => by
    unfold opvs at e
    split at e
    · rename_i v vs' e1 e2
      cases e
      exact ⟨h.1.vw r e1, RelAs.vw r h.2 e2⟩
    · cases e
def qArgs (q : Op (List P)) (p : PM (List Opd)) : PM Opd := pb p fun os pe Q => qOp q (opvs pe os) pe Q
theorem s_args {o : F1 (List D) D} {q : Op (List P)} {fr : F3 (List D)} {p : PM (List Opd)} (ho : OpP VwA o q) (h : SA fr p) : SE (fArgs o fr) (qArgs q p) := by
  refine h.bind fun a b d o ra rb f e hr Q hq => ?_
  obtain ⟨frs, hr, _⟩ := hr.ex
  exact got_op ho rb f (fun u hu => hr.vw rb hu) hq

/-! ### displays -/
def qTup (p : PM (List Opd)) : PM Opd := pb p fun os pe Q => match lkA os pe with
  | some (vs, pe') => vs.length ≤ sizeLine ∧ Q (.ok (.s (.tup vs))) pe'
  | none => False
def qLst (p : PM (List Opd)) : PM Opd := pb p fun os pe Q => match lkA os pe with
  | some (vs, pe') => vs.length ≤ sizeLine ∧ Q (.ok (.o (.lst vs))) pe'
  | none => False
theorem s_tup {fr : F3 (List D)} {p : PM (List Opd)} (h : SA fr p) : SE (fArgs oTup fr) (qTup p) := by
  refine h.bind fun a b ds os ra rb f e hr Q hq => ?_
  split at hq
  · rename_i vs pe' e1
    obtain ⟨hl, hq⟩ := hq
    obtain ⟨c, rfl, h2, h3, h4, h5, h6⟩ := hr.leak rb f e1
    refine .mk (b := c) (x := .tup ds) (by unfold lift oTup; rw [if_pos (by rw [h6.length]; exact hl), h3]) h2 h4 h5 hq ⟨[], by simp, .tup h6⟩
  · exact hq.elim
theorem got_new {a c : Cf} {v : P} {y : O} {env : Env3} {st : Sto} (r : RE c) (f : Fr a c) (hc : Con c.Z (c.st ++ [y]) [c.st.length] (.loc c.st.length) v) {g : Option (R3 D × Sto)} {Q : R3 Opd → PEnv → Prop} (hg : g = some (.ok (.loc c.st.length), c.st ++ [y])) (he : c.env = env) (hq : Q (.ok (.o v)) c.pe) : Got RelE a env g Q := by
  obtain ⟨r2, f2⟩ := re_app r y
  refine .mk (b := { c with st := c.st ++ [y] }) (x := .loc c.st.length) hg he r2 (f.trans f2) hq ⟨[c.st.length], fun n hn => ?_, hc⟩
  simp at hn
  subst hn
  exact ⟨⟨fun z => absurd (r.zb _ z) (Nat.lt_irrefl _), fun i z => absurd (r.lt z) (Nat.lt_irrefl _), f.len⟩, by simp⟩
theorem RE.appA {c : Cf} (r : RE c) {y : O} {ds : List D} {vs : List P} (h : UnA c.Z c.st ds vs) : UnA c.Z (c.st ++ [y]) ds vs := h.mono (fun _ z => z) fun n z => List.getElem?_append_left (r.zb n z)
theorem s_lst {fr : F3 (List D)} {p : PM (List Opd)} (h : SA fr p) : SE (fArgs oLst fr) (qLst p) := by
  refine h.bind fun a b ds os ra rb f e hr Q hq => ?_
  split at hq
  · rename_i vs pe' e1
    obtain ⟨hl, hq⟩ := hq
    obtain ⟨c, rfl, h2, h3, h4, h5, h6⟩ := hr.leak rb f e1
    exact got_new (st := c.st) (y := .lst ds) h4 h5 (.lst (by simp) (h4.appA h6)) (by unfold lift oLst; rw [if_pos (by rw [h6.length]; exact hl), h3]) h2 hq
  · exact hq.elim

/-! ### tests -/
def qT (p : PM Opd) : PM Bool := pb p fun o pe Q => match opv pe o with
  | some (.bl b) => Q (.ok b) pe
  | _ => False
theorem Vw.bl {c : Cf} {d : D} {b : Bool} (h : Vw c d (.bl b)) : d = .bl b := by
  rcases h with h | ⟨fr, h⟩
  · cases h
    rfl
  · cases h
theorem s_asB {fa : F3 D} {p : PM Opd} (h : SE fa p) : ST (bnd fa asB) (qT p) := by
  refine h.bind fun a b d o ra rb f e hr Q hq => ?_
  obtain ⟨fr, t, hr⟩ := hr
  split at hq
  · rename_i k hk
    have := (hr.vw rb hk).bl
    subst this
    exact .mk (b := b) (x := k) rfl rfl rb f hq rfl
  · exact hq.elim
def qIte {α : Type} (t : PM Bool) (p q : PM α) : PM α := pb t fun b => if b = true then p else q
theorem s_ite {α β : Type} {rel : Cf → Cf → α → β → Prop} {ft : F3 Bool} {f g : F3 α} {t : PM Bool} {p q : PM β} (hrel : ∀ a b c x y, Fr a b → RE b → rel b c x y → rel a c x y) (ht : ST ft t) (h1 : Sd rel f p) (h2 : Sd rel g q) : Sd rel (bnd ft fun b => if b = true then f else g) (qIte t p q) := by
  refine ht.bind fun a b x y ra rb fr e hr Q hq => ?_
  cases hr
  have fin : ∀ {fx : F3 α}, Got rel b b.env (fx b.env b.st) Q → Got rel a b.env (fx b.env b.st) Q := fun {fx} hg => by
    obtain ⟨r, r3, c, g1, g2, g3, g4, g5, g6⟩ := hg
    refine ⟨r, r3, c, g1, g2, g3, fr.trans g4, g5, ?_⟩
    cases r <;> cases r3 <;> first | exact hrel a b c _ _ fr rb g6 | exact g6
  cases x with
  | true =>
    simp only [if_true] at hq ⊢
    exact fin (h1 b rb Q hq)
  | false =>
    simp only [Bool.false_eq_true, if_false] at hq ⊢
    exact fin (h2 b rb Q hq)
theorem relE_back (a b c : Cf) (x : D) (y : Opd) (f : Fr a b) (_ : RE b) (h : RelE b c x y) : RelE a c x y := by
  obtain ⟨fr, t, h⟩ := h
  exact ⟨fr, fun n hn => ⟨(t n hn).1.back f.len, (t n hn).2⟩, h⟩
def qIf (t : PM Bool) (p q : PM Opd) : PM Opd := qIte t p q
theorem s_if {ft : F3 Bool} {f g : F3 D} {t : PM Bool} {p q : PM Opd} (ht : ST ft t) (h1 : SE f p) (h2 : SE g q) : SE (fIf ft f g) (qIf t p q) := s_ite relE_back ht h1 h2
def qAnd (p q : PM Bool) : PM Bool := qIte p q (qC false)
def qOr (p q : PM Bool) : PM Bool := qIte p (qC true) q
def qNot (p : PM Bool) : PM Bool := pb p fun b => qC (!b)
theorem s_and {f g : F3 Bool} {p q : PM Bool} (h1 : ST f p) (h2 : ST g q) : ST (fAnd f g) (qAnd p q) := s_ite (fun _ _ _ _ _ _ _ h => h) h1 h2 s_conB
theorem s_or {f g : F3 Bool} {p q : PM Bool} (h1 : ST f p) (h2 : ST g q) : ST (fOr f g) (qOr p q) := s_ite (fun _ _ _ _ _ _ _ h => h) h1 s_conB h2
theorem s_not {f : F3 Bool} {p : PM Bool} (h : ST f p) : ST (fNot f) (qNot p) := h.bind fun a b x y ra rb f e hr Q hq => by
  cases hr
  exact .mk (b := b) rfl rfl rb f hq rfl
def qAndV (p q : PM Opd) : PM Opd := qIte (qT p) q (qC (.s (.bl false)))
def qOrV (p q : PM Opd) : PM Opd := qIte (qT p) (qC (.s (.bl true))) q
def qNotV (p : PM Opd) : PM Opd := pb (qT p) fun b => qC (.s (.bl (!b)))
theorem s_andV {f g : F3 D} {p q : PM Opd} (h1 : SE f p) (h2 : SE g q) : SE (fAndV f g) (qAndV p q) := s_ite relE_back (s_asB h1) h2 (s_con fun _ _ => .bl _)
theorem s_orV {f g : F3 D} {p q : PM Opd} (h1 : SE f p) (h2 : SE g q) : SE (fOrV f g) (qOrV p q) := s_ite relE_back (s_asB h1) (s_con fun _ _ => .bl _) h2
theorem s_notV {f : F3 D} {p : PM Opd} (h : SE f p) : SE (fNotV f) (qNotV p) := (s_asB h).bind fun a b x y ra rb f e hr Q hq => by
  cases hr
  exact .mk (b := b) rfl rfl rb f hq ⟨[], by simp, .bl _⟩
/-- a chain of two comparisons -/
def qChain (q1 q2 : Op (P × P)) (p1 p2 p3 : PM Opd) : PM Opd := pb p1 fun o1 => pb p2 fun o2 pe Q => match opv2 pe o1 o2 with
  | some u => match q1 u with
    | some (false, .bl true) => pb p3 (fun o3 pe2 Q2 => qOp q2 (opv2 pe2 o2 o3) pe2 Q2) pe Q
    | some (false, .bl false) => Q (.ok (.s (.bl false))) pe
    | _ => False
  | none => False
theorem s_chain {o1 o2 : F1 (D × D) D} {q1 q2 : Op (P × P)} {fa fb fc : F3 D} {p1 p2 p3 : PM Opd} (k1 : OpP Vw2 o1 q1) (k2 : OpP Vw2 o2 q2) (h1 : SE fa p1) (h2 : SE fb p2) (h3 : SE fc p3) : SE (fChain o1 o2 fa fb fc) (qChain q1 q2 p1 p2 p3) :=
  h1.two h2 (k := fun x y => bnd (bnd (lift o1 (x, y)) asB) fun k => if k = true then bnd fc fun w => lift o2 (y, w) else ret3 (.bl false)) (k' := fun o1 o2 pe Q => match opv2 pe o1 o2 with
  | some u => match q1 u with
    | some (false, .bl true) => pb p3 (fun o3 pe2 Q2 => qOp q2 (opv2 pe2 o2 o3) pe2 Q2) pe Q
    | some (false, .bl false) => Q (.ok (.s (.bl false))) pe
    | _ => False
  | none => False) fun a c d1 d2 x1 x2 ra rc f e hr Q hq => by
    obtain ⟨frs, hrs, ht, _⟩ := hr.ex
    match frs, hrs, ht with
    | [f1, f2], hrs, ht =>
      obtain ⟨g1, g2, _⟩ := hrs
      split at hq
      · rename_i u hu
        obtain ⟨e1, e2⟩ := opv2_ok hu
        have step : ∀ bb, q1 u = some (false, .bl bb) → bnd (lift o1 (d1, d2)) asB c.env c.st = some (.ok bb, c.st) := fun bb hb => by
          obtain ⟨z, st', z1, z2, z3⟩ := k1.ex c (d1, d2) u false _ rc ⟨g1.vw rc e1, g2.vw rc e2⟩ hb
          cases z3
          subst z2
          unfold bnd lift
          rw [z1]
          rfl
        split at hq
        · rename_i hb
          have hs := step true hb
          obtain ⟨x, x3, b, j1, j2, j3, j4, j5, j6⟩ := h3 c rc _ hq
          cases x with
          | ok o3 =>
            cases x3 with
            | ok d3 =>
              obtain ⟨fr3, t3, hr3⟩ := j6
              have := got_op (a := a) (x := (d2, d3)) k2 j3 (f.trans j4) (fun w hw => by
                obtain ⟨w1, w2⟩ := opv2_ok hw
                exact ⟨(g2.on rc j4 j2 fun n hn => ⟨(ht f2 (by simp) n hn).1.nf, (ht f2 (by simp) n hn).2⟩).vw j3 w1, hr3.vw j3 w2⟩) j5
              rw [j2] at this
              have ee : (bnd (bnd (lift o1 (d1, d2)) asB) fun k => if k = true then bnd fc fun w => lift o2 (d2, w) else ret3 (.bl false)) c.env c.st = lift o2 (d2, d3) c.env b.st := by
                rw [bnd_ok hs]
                show bnd fc (fun w => lift o2 (d2, w)) c.env c.st = _
                rw [bnd_ok j1]
              rw [ee]
              exact this
            | er j => exact j6.elim
          | er i =>
            cases x3 with
            | ok ds => exact j6.elim
            | er j =>
              refine ⟨.er i, .er j, b, ?_, j2, j3, f.trans j4, j5, j6⟩
              rw [bnd_ok hs]
              show bnd fc (fun w => lift o2 (d2, w)) c.env c.st = _
              rw [bnd_er j1]
        · rename_i hb
          have hs := step false hb
          refine .mk (b := c) (x := .bl false) ?_ rfl rc f hq ⟨[], by simp, .bl _⟩
          rw [bnd_ok hs]
          rfl
        · exact hq.elim
      · exact hq.elim
end S3

set_option maxHeartbeats 4000000
/-! S5C: operations on values. -/
namespace S3
open PySem PyProof.Rows L2
section
variable {c : Cf} {d : D}
theorem Vw.non (h : Vw c d .non) : d = .non := by rcases h with h | ⟨_, h⟩ <;> cases h <;> rfl
theorem Vw.int {i : Int} (h : Vw c d (.int i)) : d = .int i := by rcases h with h | ⟨_, h⟩ <;> cases h <;> rfl
theorem Vw.str {i : Str} (h : Vw c d (.str i)) : d = .str i := by rcases h with h | ⟨_, h⟩ <;> cases h <;> rfl
theorem Vw.exn {i : Nat} (h : Vw c d (.exn i)) : d = .exn i := by rcases h with h | ⟨_, h⟩ <;> cases h <;> rfl
theorem Vw.fn {i : Nat} (h : Vw c d (.fn i)) : d = .fn i := by rcases h with h | ⟨_, h⟩ <;> cases h <;> rfl
theorem Vw.cl {i : Nat} (h : Vw c d (.cl i)) : d = .cl i := by rcases h with h | ⟨_, h⟩ <;> cases h <;> rfl
theorem Vw.ty {i : String} (h : Vw c d (.ty i)) : d = .ty i := by rcases h with h | ⟨_, h⟩ <;> cases h <;> rfl
theorem Vw.tup {vs : List P} (h : Vw c d (.tup vs)) : ∃ ds, d = .tup ds ∧ UnA c.Z c.st ds vs := by
  rcases h with h | ⟨_, h⟩ <;> cases h
  exact ⟨_, rfl, by assumption⟩
theorem Vw.tcon {vs : List P} (h : Vw c d (.tcon vs)) : ∃ ds, d = .tcon ds ∧ UnA c.Z c.st ds vs := by
  rcases h with h | ⟨_, h⟩ <;> cases h
  exact ⟨_, rfl, by assumption⟩
theorem Vw.lcon {vs : List P} (h : Vw c d (.lcon vs)) : ∃ ds, d = .lcon ds ∧ UnA c.Z c.st ds vs := by
  rcases h with h | ⟨_, h⟩ <;> cases h
  exact ⟨_, rfl, by assumption⟩
theorem Vw.lst {vs : List P} (h : Vw c d (.lst vs)) : ∃ n ds, d = .loc n ∧ c.st[n]? = some (.lst ds) ∧ UnA c.Z c.st ds vs := by
  rcases h with h | ⟨_, h⟩ <;> cases h <;> exact ⟨_, _, rfl, by assumption, by assumption⟩
theorem Vw.dK {us : List (Key × P)} (h : Vw c d (.dK us)) : ∃ n kvs, d = .loc n ∧ c.st[n]? = some (.dK kvs) ∧ kvs.map (·.1) = us.map (·.1) ∧ UnA c.Z c.st (kvs.map (·.2)) (us.map (·.2)) := by
  rcases h with h | ⟨_, h⟩ <;> cases h <;> exact ⟨_, _, rfl, by assumption, by assumption, by assumption⟩
theorem Vw.dT {us : List (List Key × P)} (h : Vw c d (.dT us)) : ∃ n kvs, d = .loc n ∧ c.st[n]? = some (.dT kvs) ∧ kvs.map (·.1) = us.map (·.1) ∧ UnA c.Z c.st (kvs.map (·.2)) (us.map (·.2)) := by
  rcases h with h | ⟨_, h⟩ <;> cases h <;> exact ⟨_, _, rfl, by assumption, by assumption, by assumption⟩
end
def pseqT : P → Option (List P)
  | .tup vs => some vs
  | .tcon vs => some vs
  | _ => none
def pseqL : P → Option (List P)
  | .lst vs => some vs
  | .lcon vs => some vs
  | _ => none
def pseqA (v : P) : Option (List P) := match pseqT v with
  | some vs => some vs
  | none => pseqL v
section
variable {c : Cf} {d : D} {v : P} {vs : List P}
theorem Vw.seqT (h : Vw c d v) (e : pseqT v = some vs) : ∃ ds, S3.seqT d = some ds ∧ UnA c.Z c.st ds vs := by
  cases v <;> cases e
  · obtain ⟨ds, rfl, a⟩ := h.tup
    exact ⟨ds, rfl, a⟩
  · obtain ⟨ds, rfl, a⟩ := h.tcon
    exact ⟨ds, rfl, a⟩
theorem Vw.seqL (h : Vw c d v) (e : pseqL v = some vs) : ∃ ds, S3.seqL c.st d = some ds ∧ S3.seqT d = none ∧ UnA c.Z c.st ds vs := by
  cases v <;> cases e
  · obtain ⟨n, ds, rfl, e, a⟩ := h.lst
    exact ⟨ds, by simp [S3.seqL, e], rfl, a⟩
  · obtain ⟨ds, rfl, a⟩ := h.lcon
    exact ⟨ds, rfl, rfl, a⟩
theorem Vw.seqA (h : Vw c d v) (e : pseqA v = some vs) : ∃ ds, S3.seqA c.st d = some ds ∧ UnA c.Z c.st ds vs := by
  unfold pseqA at e
  split at e
  · rename_i us e1
    cases e
    obtain ⟨ds, h1, h2⟩ := h.seqT e1
    exact ⟨ds, by unfold S3.seqA; rw [h1], h2⟩
  · obtain ⟨ds, h1, h2, h3⟩ := h.seqL e
    exact ⟨ds, by unfold S3.seqA; rw [h2, h1], h3⟩
end
/-! ### simple data -/
def pscl : P → Option V
  | .non => some .non
  | .bl b => some (.bl b)
  | .int i => some (.int i)
  | .str x => some (.str x)
  | _ => none
def psclA : List P → Option (List V)
  | [] => some []
  | d :: r => match pscl d, psclA r with
    | some u, some us => some (u :: us)
    | _, _ => none
theorem Vw.scl {c : Cf} {d : D} {v : P} {u : V} (h : Vw c d v) (e : pscl v = some u) : S3.scl d = some u := by
  cases v <;> cases e
  · rw [h.non]; rfl
  · rw [h.bl]; rfl
  · rw [h.int]; rfl
  · rw [h.str]; rfl
theorem UnA.scl {Z : Nat → Prop} {st : Sto} : ∀ {ds : List D} {vs : List P} {us : List V}, UnA Z st ds vs → psclA vs = some us → sclA ds = some us
  | _, _, us, .nil, e => e
  | _, _, us, .cons (d := d) (v := v) (ds := ds) (vs := vs) h a, e => by
    unfold psclA at e
    split at e
    · rename_i u us' e1 e2
      cases e
      have h1 : S3.scl d = some u := Vw.scl (c := ⟨Z, fun _ => [], [], st, []⟩) (.inl h) e1
      unfold sclA
      rw [h1, a.scl e2]
    · cases e
def pints : List P → Option (List Int)
  | [] => some []
  | .int i :: r => match pints r with
    | some is => some (i :: is)
    | none => none
  | _ => none
theorem UnA.ints {Z : Nat → Prop} {st : Sto} : ∀ {ds : List D} {vs : List P} {us : List Int}, UnA Z st ds vs → pints vs = some us → intsOf ds = some us
  | _, _, us, .nil, e => e
  | _, _, us, .cons h a, e => by
    cases h <;> try cases e
    unfold pints at e
    split at e
    · rename_i is e1
      cases e
      unfold intsOf
      rw [a.ints e1]
    · cases e
def pbls : List P → Option (List Bool)
  | [] => some []
  | .bl i :: r => match pbls r with
    | some is => some (i :: is)
    | none => none
  | _ => none
theorem UnA.bls {Z : Nat → Prop} {st : Sto} : ∀ {ds : List D} {vs : List P} {us : List Bool}, UnA Z st ds vs → pbls vs = some us → blsOf ds = some us
  | _, _, us, .nil, e => e
  | _, _, us, .cons h a, e => by
    cases h <;> try cases e
    unfold pbls at e
    split at e
    · rename_i is e1
      cases e
      unfold blsOf
      rw [a.bls e1]
    · cases e
/-! ### data -/
def pdat : Nat → P → Option PyData
  | 0, _ => none
  | _ + 1, .non => some .none
  | _ + 1, .bl b => some (.bool b)
  | _ + 1, .int i => some (.int i)
  | _ + 1, .str x => some (.str x)
  | n + 1, .tup ds => match mapO (pdat n) ds with
    | some xs => some (.tuple xs)
    | none => none
  | n + 1, .tcon ds => match mapO (pdat n) ds with
    | some xs => some (.tuple xs)
    | none => none
  | n + 1, .lst ds => match mapO (pdat n) ds with
    | some xs => some (.list xs)
    | none => none
  | n + 1, .lcon ds => match mapO (pdat n) ds with
    | some xs => some (.list xs)
    | none => none
  | _ + 1, _ => none
theorem mapO_un {Z : Nat → Prop} {st : Sto} {f : D → Option PyData} {g : P → Option PyData} (h : ∀ d v, Un Z st d v → f d = g v) : ∀ {ds : List D} {vs : List P}, UnA Z st ds vs → mapO f ds = mapO g vs
  | _, _, .nil => rfl
  | _, _, .cons r a => by
    unfold mapO
    rw [h _ _ r, mapO_un h a]
theorem dat_un {Z : Nat → Prop} {st : Sto} : ∀ (n : Nat) (d : D) (v : P), Un Z st d v → dat st n d = pdat n v
  | 0, _, _, _ => rfl
  | n + 1, _, _, h => by
    cases h with
    | tup a => unfold dat pdat; rw [mapO_un (dat_un n) a]; try rfl
    | tcon a => unfold dat pdat; rw [mapO_un (dat_un n) a]; try rfl
    | lcon a => unfold dat pdat; rw [mapO_un (dat_un n) a]; try rfl
    | lst z e a => unfold dat pdat; rw [e]; dsimp only; rw [mapO_un (dat_un n) a]; try rfl
    | dK z e k a => unfold dat pdat; rw [e]
    | dT z e k a => unfold dat pdat; rw [e]
    | _ => rfl
theorem Vw.dat {c : Cf} {d : D} {v : P} (h : Vw c d v) (n : Nat) (hd : frz v = true) : S3.dat c.st n d = pdat n v := by
  rcases h with h | ⟨fr, h⟩
  · exact dat_un n d v h
  · cases n with
    | zero => rfl
    | succ n =>
      cases h with
      | lst e a => unfold S3.dat pdat; rw [e]; dsimp only; rw [mapO_un (dat_un n) a]; try rfl
      | dK e k a => unfold S3.dat pdat; rw [e]
      | dT e k a => unfold S3.dat pdat; rw [e]
      | drw e => cases hd
def pdat64 (v : P) : Option PyData := match pdat 66 v with
  | some x => if SeqAt.shaped x = true then some x else none
  | none => none
theorem Vw.dat64 {c : Cf} {d : D} {v : P} {x : PyData} (h : Vw c d v) (e : pdat64 v = some x) : S3.dat64 c.st d = some x := by
  have hf : frz v = true := by
    cases v <;> first | rfl | cases e
  unfold S3.dat64
  rw [h.dat 66 hf]
  exact e
/-! ### the operations -/
theorem opP_same {α β : Type} {V : Cf → α → β → Prop} {o : F1 α D} {q : Op β} (h : ∀ c x v b w, RE c → V c x v → q v = some (b, w) → b = false ∧ ∃ z, o x c.st = some (z, c.st) ∧ Un c.Z c.st z w) : OpP V o q := ⟨fun c x v b w r hv e => by
  obtain ⟨rfl, z, h1, h2⟩ := h c x v b w r hv e
  exact ⟨z, c.st, h1, rfl, h2⟩⟩
def qAdd : Op (P × P) := fun p => match p with
  | (.int i, .int j) => some (false, .int (i + j))
  | (.str i, .str j) => if i.length + j.length ≤ sizeLine then some (false, .str (i ++ j)) else none
  | (.tup xs, .tup ys) => if xs.length + ys.length ≤ sizeLine then some (false, .tup (xs ++ ys)) else none
  | (.lst xs, .lst ys) => if xs.length + ys.length ≤ sizeLine then some (true, .lst (xs ++ ys)) else none
  | _ => none
theorem op_add5 : OpP Vw2 oAdd qAdd := ⟨fun c x v b w r hv e => by
  obtain ⟨x1, x2⟩ := x
  unfold qAdd at e
  split at e
  · cases e
    obtain ⟨h1, h2⟩ := hv
    obtain rfl := h1.int
    obtain rfl := h2.int
    exact ⟨_, _, rfl, rfl, .int _⟩
  · split at e
    · rename_i hl
      cases e
      obtain ⟨h1, h2⟩ := hv
      obtain rfl := h1.str
      obtain rfl := h2.str
      exact ⟨_, _, if_pos hl, rfl, .str _⟩
    · cases e
  · split at e
    · rename_i hl
      cases e
      obtain ⟨h1, h2⟩ := hv
      obtain ⟨ds, rfl, a1⟩ := h1.tup
      obtain ⟨es, rfl, a2⟩ := h2.tup
      exact ⟨_, _, if_pos (by rw [a1.length, a2.length]; exact hl), rfl, .tup (a1.append a2)⟩
    · cases e
  · split at e
    · rename_i hl
      cases e
      obtain ⟨h1, h2⟩ := hv
      obtain ⟨n, ds, rfl, e1, a1⟩ := h1.lst
      obtain ⟨m, es, rfl, e2, a2⟩ := h2.lst
      refine ⟨.loc c.st.length, c.st ++ [.lst (ds ++ es)], ?_, .lst (ds ++ es), rfl, rfl, .lst (by simp) (r.appA (a1.append a2))⟩
      have k1 : ownL c.st (.loc n) = some (n, ds) := by simp [ownL, e1]
      have k2 : ownL c.st (.loc m) = some (m, es) := by simp [ownL, e2]
      show (match ownL c.st (.loc n), ownL c.st (.loc m) with | some (_, xs), some (_, ys) => _ | _, _ => _) = _
      rw [k1, k2]
      exact if_pos (by rw [a1.length, a2.length]; exact hl)
    · cases e
  · cases e⟩
def qInt (C : Int → Int → Bool) (f : Int → Int → P) : Op (P × P) := fun p => match p with
  | (.int i, .int j) => if C i j = true then some (false, f i j) else none
  | _ => none
theorem op_int5 {C : Int → Int → Bool} {f : Int → Int → D} {g : Int → Int → P} (h : ∀ i j Z st, Un Z st (f i j) (g i j)) : OpP Vw2 (oInt C f) (qInt C g) := opP_same fun c x v b w r hv e => by
  obtain ⟨x1, x2⟩ := x
  unfold qInt at e
  split at e
  · split at e
    · rename_i hc
      cases e
      obtain ⟨h1, h2⟩ := hv
      obtain rfl := h1.int
      obtain rfl := h2.int
      exact ⟨rfl, _, if_pos hc, h _ _ _ _⟩
    · cases e
  · cases e
def qSub : Op (P × P) := qInt yes2 fun i j => .int (i - j)
def qMul : Op (P × P) := qInt cMul fun i j => .int (i * j)
def qDiv : Op (P × P) := qInt cDiv fun i j => .int (i / j)
def qMod : Op (P × P) := qInt cMod fun i j => .int (i % j)
def qPow : Op (P × P) := qInt cPow fun i j => .int (i ^ j.toNat)
def qGt : Op (P × P) := qInt yes2 fun i j => .bl (decide (j < i))
def qGe : Op (P × P) := qInt yes2 fun i j => .bl (decide (j ≤ i))
def qEq : Op (P × P) := fun p => match pdat64 p.1, pdat64 p.2 with
  | some x, some y => some (false, .bl (PyData.eqv x y))
  | _, _ => none
def qNe : Op (P × P) := fun p => match pdat64 p.1, pdat64 p.2 with
  | some x, some y => some (false, .bl (!PyData.eqv x y))
  | _, _ => none
theorem op_eq5 : OpP Vw2 oEq qEq := opP_same fun c x v b w r hv e => by
  obtain ⟨x1, x2⟩ := x
  unfold qEq at e
  split at e
  · rename_i u1 u2 e1 e2
    cases e
    exact ⟨rfl, _, by unfold oEq; rw [hv.1.dat64 e1, hv.2.dat64 e2], .bl _⟩
  · cases e
theorem op_ne5 : OpP Vw2 oNe qNe := opP_same fun c x v b w r hv e => by
  obtain ⟨x1, x2⟩ := x
  unfold qNe at e
  split at e
  · rename_i u1 u2 e1 e2
    cases e
    exact ⟨rfl, _, by unfold oNe; rw [hv.1.dat64 e1, hv.2.dat64 e2], .bl _⟩
  · cases e
def qLt : Op (P × P) := fun p => match p with
  | (.int i, .int j) => some (false, .bl (decide (i < j)))
  | (.str i, .str j) => some (false, .bl (decide (i.cps.toList < j.cps.toList)))
  | (.tup xs, .tup ys) => match pints xs, pints ys with
    | some is, some js => some (false, .bl (HT.lexLt is js))
    | _, _ => none
  | _ => none
theorem op_lt5 : OpP Vw2 oLt qLt := opP_same fun c x v b w r hv e => by
  obtain ⟨x1, x2⟩ := x
  unfold qLt at e
  split at e
  · cases e
    obtain ⟨h1, h2⟩ := hv
    obtain rfl := h1.int
    obtain rfl := h2.int
    exact ⟨rfl, _, rfl, .bl _⟩
  · cases e
    obtain ⟨h1, h2⟩ := hv
    obtain rfl := h1.str
    obtain rfl := h2.str
    exact ⟨rfl, _, rfl, .bl _⟩
  · split at e
    · rename_i is js e1 e2
      cases e
      obtain ⟨h1, h2⟩ := hv
      obtain ⟨ds, rfl, a1⟩ := h1.tup
      obtain ⟨es, rfl, a2⟩ := h2.tup
      refine ⟨rfl, _, ?_, .bl _⟩
      show (match intsOf ds, intsOf es with | some is, some js => _ | _, _ => _) = _
      rw [a1.ints e1, a2.ints e2]
    · cases e
  · cases e
def qLe : Op (P × P) := fun p => match p with
  | (.int i, .int j) => some (false, .bl (decide (i ≤ j)))
  | (.str i, .str j) => some (false, .bl (!decide (j.cps.toList < i.cps.toList)))
  | _ => none
theorem op_le5 : OpP Vw2 oLe qLe := opP_same fun c x v b w r hv e => by
  obtain ⟨x1, x2⟩ := x
  unfold qLe at e
  split at e
  · cases e
    obtain ⟨h1, h2⟩ := hv
    obtain rfl := h1.int
    obtain rfl := h2.int
    exact ⟨rfl, _, rfl, .bl _⟩
  · cases e
    obtain ⟨h1, h2⟩ := hv
    obtain rfl := h1.str
    obtain rfl := h2.str
    exact ⟨rfl, _, rfl, .bl _⟩
  · cases e
def qIn (neg : Bool) : Op (P × P) := fun p => match pscl p.1, pseqA p.2 with
  | some u, some ds => match psclA ds with
    | some us => some (false, .bl (if neg then !inV u us else inV u us))
    | none => none
  | _, _ => none
theorem op_in5 {neg : Bool} : OpP Vw2 (oIn neg) (qIn neg) := opP_same fun c x v b w r hv e => by
  obtain ⟨x1, x2⟩ := x
  unfold qIn at e
  split at e
  · rename_i u ds e1 e2
    split at e
    · rename_i us e3
      cases e
      obtain ⟨h1, h2⟩ := hv
      obtain ⟨es, k1, k2⟩ := h2.seqA e2
      refine ⟨rfl, _, ?_, .bl _⟩
      unfold oIn
      rw [h1.scl e1]
      dsimp only
      rw [k1]
      dsimp only
      rw [k2.scl e3]
    · cases e
  · cases e
def qInS (neg : Bool) : Op (P × P) := fun p => match p with
  | (.str x, .str z) => match x.cps.toList with
    | [c] => some (false, .bl (if neg then !decide (c ∈ z.cps.toList) else decide (c ∈ z.cps.toList)))
    | _ => none
  | _ => none
theorem op_inS5 {neg : Bool} : OpP Vw2 (oInS neg) (qInS neg) := opP_same fun c x v b w r hv e => by
  obtain ⟨x1, x2⟩ := x
  unfold qInS at e
  split at e
  · split at e
    · rename_i hc
      cases e
      obtain ⟨h1, h2⟩ := hv
      obtain rfl := h1.str
      obtain rfl := h2.str
      refine ⟨rfl, _, ?_, .bl _⟩
      unfold oInS
      dsimp only
      rw [hc]
    · cases e
  · cases e
def pisN : P → Bool
  | .non => true
  | _ => false
theorem Vw.isN {c : Cf} {d : D} {v : P} (h : Vw c d v) : S3.isN d = pisN v := by
  rcases h with h | ⟨_, h⟩ <;> cases h <;> rfl
def qIsN (neg : Bool) : Op P := fun v => some (false, .bl (if neg then !pisN v else pisN v))
theorem op_isN5 {neg : Bool} : OpP Vw (oIsN neg) (qIsN neg) := opP_same fun c x v b w r hv e => by
  cases e
  exact ⟨rfl, _, by unfold oIsN; rw [hv.isN], .bl _⟩
def qIsB (neg : Bool) : Op (P × P) := fun p => match p with
  | (.bl a, .bl b) => some (false, .bl (if neg then !decide (a = b) else decide (a = b)))
  | _ => none
theorem op_isB5 {neg : Bool} : OpP Vw2 (oIsB neg) (qIsB neg) := opP_same fun c x v b w r hv e => by
  obtain ⟨x1, x2⟩ := x
  unfold qIsB at e
  split at e
  · cases e
    obtain ⟨h1, h2⟩ := hv
    obtain rfl := h1.bl
    obtain rfl := h2.bl
    exact ⟨rfl, _, rfl, .bl _⟩
  · cases e
def qNeg : Op P := fun v => match v with
  | .int i => some (false, .int (-i))
  | _ => none
theorem op_neg5 : OpP Vw oNeg qNeg := opP_same fun c x v b w r hv e => by
  unfold qNeg at e
  split at e
  · cases e
    obtain rfl := hv.int
    exact ⟨rfl, _, rfl, .int _⟩
  · cases e
theorem UnA.atI {Z : Nat → Prop} {st : Sto} {ds : List D} {vs : List P} {i : Int} {v : P} (h : UnA Z st ds vs) (e : L2.atI vs i = some v) : ∃ d, L2.atI ds i = some d ∧ Un Z st d v := by
  unfold L2.atI at e ⊢
  rw [h.length]
  cases hk : L2.ixN vs.length i with
  | none =>
    rw [hk] at e
    cases e
  | some k =>
    rw [hk] at e
    obtain ⟨d, h1, h2⟩ := h.get (i := k) e
    exact ⟨d, h1, h2⟩
def qIx : Op (P × P) := fun p => match p.2 with
  | .int i => match p.1 with
    | .str z => if z.length ≤ sizeLine then match L2.atI z.cps.toList i with
        | some k => some (false, .str ⟨#[k]⟩)
        | none => none
      else none
    | x => match pseqA x with
      | some ds => match L2.atI ds i with
        | some d => some (false, d)
        | none => none
      | none => none
  | _ => none
theorem op_ix5 : OpP Vw2 oIx qIx := opP_same fun c x v b w r hv e => by
  obtain ⟨x1, x2⟩ := x
  obtain ⟨v1, v2⟩ := v
  obtain ⟨h1, h2⟩ := hv
  unfold qIx at e
  dsimp only at e h1 h2
  split at e
  · obtain rfl := h2.int
    split at e
    · obtain rfl := h1.str
      split at e
      · rename_i hl
        split at e
        · rename_i k hk
          cases e
          exact ⟨rfl, _, by unfold oIx; dsimp only; rw [if_pos hl, hk], .str _⟩
        · cases e
      · cases e
    · rename_i hns
      split at e
      · rename_i vs e1
        split at e
        · rename_i u e2
          cases e
          obtain ⟨ds, k1, k2⟩ := h1.seqA e1
          obtain ⟨d, g1, g2⟩ := k2.atI e2
          refine ⟨rfl, d, ?_, g2⟩
          unfold oIx
          dsimp only
          split
          · rename_i z
            exfalso
            rw [show S3.seqA c.st (.str z) = none by simp [S3.seqA, S3.seqT, S3.seqL]] at k1
            cases k1
          · rw [k1]
            dsimp only
            rw [g1]
        · cases e
      · cases e
  · cases e
def qSl : Op (P × Option Int × Option Int) := fun p => match p.1 with
  | .tup ds => some (false, .tup (cut3 ds p.2.1 p.2.2))
  | .str z => if z.length ≤ sizeLine then some (false, .str (cutS z p.2.1 p.2.2)) else none
  | .lst ds => some (true, .lst (cut3 ds p.2.1 p.2.2))
  | .lcon ds => some (true, .lst (cut3 ds p.2.1 p.2.2))
  | _ => none
abbrev VwS (c : Cf) (x : D × Option Int × Option Int) (v : P × Option Int × Option Int) : Prop := Vw c x.1 v.1 ∧ x.2 = v.2
theorem UnA.cut {Z : Nat → Prop} {st : Sto} {ds : List D} {vs : List P} {lo hi : Option Int} (h : UnA Z st ds vs) : UnA Z st (cut3 ds lo hi) (cut3 vs lo hi) := by
  unfold cut3
  rw [h.length]
  exact (h.drop _).take _
theorem op_sl5 : OpP VwS oSl qSl := ⟨fun c x v b w r hv e => by
  obtain ⟨x1, lo, hi⟩ := x
  obtain ⟨v1, lo2, hi2⟩ := v
  obtain ⟨h1, h2⟩ := hv
  cases h2
  unfold qSl at e
  dsimp only at e h1
  split at e
  · cases e
    obtain ⟨ds, rfl, a⟩ := h1.tup
    exact ⟨_, _, rfl, rfl, .tup a.cut⟩
  · split at e
    · rename_i hl
      cases e
      obtain rfl := h1.str
      exact ⟨_, _, if_pos hl, rfl, .str _⟩
    · cases e
  · cases e
    obtain ⟨n, ds, rfl, e1, a⟩ := h1.lst
    refine ⟨_, _, ?_, .lst (cut3 ds lo hi), rfl, rfl, .lst (by simp) (r.appA a.cut)⟩
    show (match seqL c.st (.loc n) with | some ds => _ | none => _) = _
    rw [show seqL c.st (.loc n) = some ds by simp [seqL, e1]]
  · cases e
    obtain ⟨ds, rfl, a⟩ := h1.lcon
    exact ⟨_, _, rfl, .lst (cut3 ds lo hi), rfl, rfl, .lst (by simp) (r.appA a.cut)⟩
  · cases e⟩
/-! ### built-ins -/
theorem VwA.one {c : Cf} {ds : List D} {v : P} (h : VwA c ds [v]) : ∃ d, ds = [d] ∧ Vw c d v := by
  match ds, h with
  | [d], h => exact ⟨d, rfl, h.1⟩
theorem VwA.two {c : Cf} {ds : List D} {v w : P} (h : VwA c ds [v, w]) : ∃ d e, ds = [d, e] ∧ Vw c d v ∧ Vw c e w := by
  match ds, h with
  | [d, e], h => exact ⟨d, e, rfl, h.1, h.2.1⟩
def qLen : Op (List P) := fun p => match p with
  | [.str z] => if z.length ≤ sizeLine then some (false, .int z.length) else none
  | [x] => match pseqA x with
    | some ds => some (false, .int ds.length)
    | none => none
  | _ => none
theorem seqA_str {st : Sto} {z : Str} : S3.seqA st (.str z) = none := by simp [S3.seqA, S3.seqT, S3.seqL]
theorem op_len5 : OpP VwA oLen qLen := opP_same fun c x v b w r hv e => by
  unfold qLen at e
  split at e
  · split at e
    · rename_i hl
      cases e
      obtain ⟨d, rfl, h⟩ := hv.one
      obtain rfl := h.str
      exact ⟨rfl, _, if_pos hl, .int _⟩
    · cases e
  · split at e
    · rename_i vs e1
      cases e
      obtain ⟨d, rfl, h⟩ := hv.one
      obtain ⟨ds, k1, k2⟩ := h.seqA e1
      refine ⟨rfl, .int ds.length, ?_, by rw [k2.length]; exact .int _⟩
      unfold oLen
      split
      · rename_i z hz
        cases hz
        rw [seqA_str] at k1
        cases k1
      · rename_i y hy hz
        cases hz
        rw [k1]
      · rename_i h1 h2
        exact absurd rfl (h2 d)
    · cases e
  · cases e
def qAbs : Op (List P) := fun p => match p with
  | [.int i] => some (false, .int (if i < 0 then -i else i))
  | _ => none
theorem op_abs5 : OpP VwA oAbs qAbs := opP_same fun c x v b w r hv e => by
  unfold qAbs at e
  split at e
  · cases e
    obtain ⟨d, rfl, h⟩ := hv.one
    obtain rfl := h.int
    exact ⟨rfl, _, rfl, .int _⟩
  · cases e
def qInt1 : Op (List P) := fun p => match p with
  | [.int i] => some (false, .int i)
  | [.bl b] => some (false, .int (if b then 1 else 0))
  | _ => none
theorem op_int15 : OpP VwA oInt1 qInt1 := opP_same fun c x v b w r hv e => by
  unfold qInt1 at e
  split at e
  · cases e
    obtain ⟨d, rfl, h⟩ := hv.one
    obtain rfl := h.int
    exact ⟨rfl, _, rfl, .int _⟩
  · cases e
    obtain ⟨d, rfl, h⟩ := hv.one
    obtain rfl := h.bl
    exact ⟨rfl, _, rfl, .int _⟩
  · cases e
def qMm (f : List Int → Int) (g : Int → Int → Int) : Op (List P) := fun p => match p with
  | [.int i, .int j] => some (false, .int (g i j))
  | [x] => match pseqL x with
    | some ds => match pints ds with
      | some is => if is ≠ [] then some (false, .int (f is)) else none
      | none => none
    | none => none
  | _ => none
abbrev qMin : Op (List P) := qMm minL fun i j => if j < i then j else i
abbrev qMax : Op (List P) := qMm maxL fun i j => if j > i then j else i
theorem op_min5 : OpP VwA oMin qMin := opP_same fun c x v b w r hv e => by
  unfold qMin qMm at e
  split at e
  · cases e
    obtain ⟨d1, d2, rfl, h1, h2⟩ := hv.two
    obtain rfl := h1.int
    obtain rfl := h2.int
    exact ⟨rfl, _, rfl, .int _⟩
  · split at e
    · rename_i vs e1
      split at e
      · rename_i is e2
        split at e
        · rename_i hne
          cases e
          obtain ⟨d, rfl, h⟩ := hv.one
          obtain ⟨ds, k1, _, k2⟩ := h.seqL e1
          refine ⟨rfl, .int (minL is), ?_, .int _⟩
          unfold oMin
          simp only
          rw [k1]
          dsimp only
          rw [k2.ints e2]
          exact if_pos hne
        · cases e
      · cases e
    · cases e
  · cases e
theorem op_max5 : OpP VwA oMax qMax := opP_same fun c x v b w r hv e => by
  unfold qMax qMm at e
  split at e
  · cases e
    obtain ⟨d1, d2, rfl, h1, h2⟩ := hv.two
    obtain rfl := h1.int
    obtain rfl := h2.int
    exact ⟨rfl, _, rfl, .int _⟩
  · split at e
    · rename_i vs e1
      split at e
      · rename_i is e2
        split at e
        · rename_i hne
          cases e
          obtain ⟨d, rfl, h⟩ := hv.one
          obtain ⟨ds, k1, _, k2⟩ := h.seqL e1
          refine ⟨rfl, .int (maxL is), ?_, .int _⟩
          unfold oMax
          simp only
          rw [k1]
          dsimp only
          rw [k2.ints e2]
          exact if_pos hne
        · cases e
      · cases e
    · cases e
  · cases e
def tyP : P → Option String
  | .non => some "NoneType"
  | .bl _ => some "bool"
  | .int _ => some "int"
  | .str _ => some "str"
  | .tup _ => some "tuple"
  | .tcon _ => some "tuple"
  | .lst _ => some "list"
  | .dK _ => some "dict"
  | .dT _ => some "dict"
  | _ => none
theorem Vw.tyD {c : Cf} {d : D} {v : P} {s : String} (h : Vw c d v) (e : tyP v = some s) : S3.tyD c.st d = some s := by
  cases v <;> cases e
  · rw [h.non]; rfl
  · rw [h.bl]; rfl
  · rw [h.int]; rfl
  · rw [h.str]; rfl
  · obtain ⟨_, rfl, _⟩ := h.tup; rfl
  · obtain ⟨n, ds, rfl, e, _⟩ := h.lst; simp [S3.tyD, e]
  · obtain ⟨_, rfl, _⟩ := h.tcon; rfl
  · obtain ⟨n, ds, rfl, e, _⟩ := h.dK; simp [S3.tyD, e]
  · obtain ⟨n, ds, rfl, e, _⟩ := h.dT; simp [S3.tyD, e]
def qIsi : Op (List P) := fun p => match p with
  | [x, .ty T] => match tyP x with
    | some a => match kitB a T with
      | some b => some (false, .bl b)
      | none => none
    | none => none
  | _ => none
theorem op_isi5 : OpP VwA oIsi qIsi := opP_same fun c x v b w r hv e => by
  unfold qIsi at e
  split at e
  · split at e
    · rename_i a e1
      split at e
      · rename_i b' e2
        cases e
        obtain ⟨d1, d2, rfl, h1, h2⟩ := hv.two
        obtain rfl := h2.ty
        refine ⟨rfl, _, ?_, .bl _⟩
        unfold oIsi
        dsimp only
        rw [h1.tyD e1]
        dsimp only
        rw [e2]
      · cases e
    · cases e
  · cases e
def qTuple : Op (List P) := fun p => match p with
  | [.tup ds] => some (false, .tup ds)
  | [x] => match pseqL x with
    | some ds => some (false, .tup ds)
    | none => none
  | _ => none
theorem op_tuple5 : OpP VwA oTuple qTuple := opP_same fun c x v b w r hv e => by
  unfold qTuple at e
  split at e
  · cases e
    obtain ⟨d, rfl, h⟩ := hv.one
    obtain ⟨ds, rfl, a⟩ := h.tup
    exact ⟨rfl, _, rfl, .tup a⟩
  · split at e
    · rename_i vs e1
      cases e
      obtain ⟨d, rfl, h⟩ := hv.one
      obtain ⟨ds, k1, kt, k2⟩ := h.seqL e1
      refine ⟨rfl, .tup ds, ?_, .tup k2⟩
      unfold oTuple
      split
      · rename_i es hz
        cases hz
        cases kt
      · rename_i y hy hz
        cases hz
        rw [k1]
      · rename_i h1 h2
        exact absurd rfl (h2 d)
    · cases e
  · cases e
theorem opP_list {o : F1 (List D) D} {q : Op (List P)} (h : ∀ c x v b w, RE c → VwA c x v → q v = some (b, w) → b = true ∧ ∃ ds vs, w = .lst vs ∧ o x c.st = some (.loc c.st.length, c.st ++ [.lst ds]) ∧ UnA c.Z c.st ds vs) : OpP VwA o q := ⟨fun c x v b w r hv e => by
  obtain ⟨rfl, ds, vs, rfl, h1, h2⟩ := h c x v b w r hv e
  exact ⟨_, _, h1, .lst ds, rfl, rfl, .lst (by simp) (r.appA h2)⟩⟩
def qList : Op (List P) := fun p => match p with
  | [x] => match pseqA x with
    | some ds => some (true, .lst ds)
    | none => none
  | _ => none
theorem op_list5 : OpP VwA oList qList := opP_list fun c x v b w r hv e => by
  unfold qList at e
  split at e
  · split at e
    · rename_i vs e1
      cases e
      obtain ⟨d, rfl, h⟩ := hv.one
      obtain ⟨ds, k1, k2⟩ := h.seqA e1
      refine ⟨rfl, ds, vs, rfl, ?_, k2⟩
      unfold oList
      dsimp only
      rw [k1]
    · cases e
  · cases e
def qBls (f : List Bool → Bool) : Op (List P) := fun p => match p with
  | [x] => match pseqL x with
    | some ds => match pbls ds with
      | some bs => some (false, .bl (f bs))
      | none => none
    | none => none
  | _ => none
abbrev qAll : Op (List P) := qBls fun bs => bs.all id
abbrev qAny : Op (List P) := qBls fun bs => bs.any id
theorem op_all5 : OpP VwA oAll qAll := opP_same fun c x v b w r hv e => by
  unfold qAll qBls at e
  split at e
  · split at e
    · rename_i vs e1
      split at e
      · rename_i is e2
        cases e
        obtain ⟨d, rfl, h⟩ := hv.one
        obtain ⟨ds, k1, _, k2⟩ := h.seqL e1
        refine ⟨rfl, _, ?_, .bl _⟩
        unfold oAll
        dsimp only
        rw [k1]
        dsimp only
        rw [k2.bls e2]
      · cases e
    · cases e
  · cases e
theorem op_any5 : OpP VwA oAny qAny := opP_same fun c x v b w r hv e => by
  unfold qAny qBls at e
  split at e
  · split at e
    · rename_i vs e1
      split at e
      · rename_i is e2
        cases e
        obtain ⟨d, rfl, h⟩ := hv.one
        obtain ⟨ds, k1, _, k2⟩ := h.seqL e1
        refine ⟨rfl, _, ?_, .bl _⟩
        unfold oAny
        dsimp only
        rw [k1]
        dsimp only
        rw [k2.bls e2]
      · cases e
    · cases e
  · cases e
theorem unA_ints {Z : Nat → Prop} {st : Sto} : ∀ is : List Int, UnA Z st (is.map D.int) (is.map P.int)
  | [] => .nil
  | i :: is => .cons (.int i) (unA_ints is)
def qSorted : Op (List P) := fun p => match p with
  | [x] => match pseqL x with
    | some ds => match pints ds with
      | some is => some (true, .lst ((isort is).map P.int))
      | none => none
    | none => none
  | _ => none
theorem op_sorted5 : OpP VwA oSorted qSorted := opP_list fun c x v b w r hv e => by
  unfold qSorted at e
  split at e
  · split at e
    · rename_i vs e1
      split at e
      · rename_i is e2
        cases e
        obtain ⟨d, rfl, h⟩ := hv.one
        obtain ⟨ds, k1, _, k2⟩ := h.seqL e1
        refine ⟨rfl, (isort is).map D.int, _, rfl, ?_, unA_ints _⟩
        unfold oSorted
        dsimp only
        rw [k1]
        dsimp only
        rw [k2.ints e2]
      · cases e
    · cases e
  · cases e
def qStrI : Op (List P) := fun p => match p with
  | [.int i] => if i.natAbs.log2 < 1920 then some (false, .str (toString i)) else none
  | _ => none
theorem op_strI5 : OpP VwA oStrI qStrI := opP_same fun c x v b w r hv e => by
  unfold qStrI at e
  split at e
  · split at e
    · rename_i hl
      cases e
      obtain ⟨d, rfl, h⟩ := hv.one
      obtain rfl := h.int
      exact ⟨rfl, _, if_pos hl, .str _⟩
    · cases e
  · cases e
def qRgL : Op P := fun v => match v with
  | .int j => if 0 ≤ j ∧ j ≤ 16777216 then some (true, .lst ((List.range j.toNat).map fun i => .int (i : Nat))) else none
  | _ => none
theorem unA_map {Z : Nat → Prop} {st : Sto} {α : Type} {f : α → D} {g : α → P} (h : ∀ a, Un Z st (f a) (g a)) : ∀ l : List α, UnA Z st (l.map f) (l.map g)
  | [] => .nil
  | a :: l => .cons (h a) (unA_map h l)
theorem op_rgL5 : OpP Vw oRgL qRgL := ⟨fun c x v b w r hv e => by
  unfold qRgL at e
  split at e
  · split at e
    · rename_i hl
      cases e
      obtain rfl := hv.int
      exact ⟨_, _, if_pos hl, .lst _, rfl, rfl, .lst (by simp) (r.appA (unA_map (fun i => .int _) _))⟩
    · cases e
  · cases e⟩
def qLenSet : Op P := fun v => match pseqT v with
  | some ds => match pints ds with
    | some ns => if ns.length ≤ 4000 then some (false, .int (nubI ns).length) else none
    | none => none
  | none => none
theorem op_lenSet5 : OpP Vw oLenSet qLenSet := opP_same fun c x v b w r hv e => by
  unfold qLenSet at e
  split at e
  · rename_i vs e1
    split at e
    · rename_i ns e2
      split at e
      · rename_i hl
        cases e
        obtain ⟨ds, k1, k2⟩ := hv.seqT e1
        refine ⟨rfl, _, ?_, .int _⟩
        unfold oLenSet
        rw [k1]
        dsimp only
        rw [k2.ints e2]
        exact if_pos hl
      · cases e
    · cases e
  · cases e
def qIsV (tab : Nat → Nat → Bool) : Op (List P) := fun ds => match ds with
  | [.exn i, .cl j] => some (false, .bl (tab i j))
  | _ => none
theorem op_isV5 {tab : Nat → Nat → Bool} : OpP VwA (oIsV tab) (qIsV tab) := opP_same fun c x v b w r hv e => by
  unfold qIsV at e
  split at e
  · cases e
    obtain ⟨d1, d2, rfl, h1, h2⟩ := hv.two
    obtain rfl := h1.exn
    obtain rfl := h2.cl
    exact ⟨rfl, _, rfl, .bl _⟩
  · cases e
def refP : P → Bool
  | .tup _ => true
  | .tcon _ => true
  | .lst _ => true
  | .lcon _ => true
  | .dK _ => true
  | .dT _ => true
  | _ => false
theorem Vw.refD {c : Cf} {d : D} {v : P} (h : Vw c d v) (e : refP v = true) : S3.refD d = true := by
  rcases h with h | ⟨_, h⟩ <;> cases h <;> first | rfl | cases e
def qRepr : Op (List P) := fun ds => match ds with
  | [x] => match pdat64 x with
    | some d => if refP x = true ∧ d.showable = true ∧ d.hasDict = false ∧ d.depth ≤ 60 ∧ d.shown.length ≤ sizeLine then some (false, .str d.shown) else none
    | none => none
  | _ => none
theorem op_repr5 : OpP VwA oRepr qRepr := opP_same fun c x v b w r hv e => by
  unfold qRepr at e
  split at e
  · split at e
    · rename_i pd e1
      split at e
      · rename_i hl
        cases e
        obtain ⟨d, rfl, h⟩ := hv.one
        refine ⟨rfl, _, ?_, .str _⟩
        unfold oRepr
        dsimp only
        rw [h.dat64 e1]
        exact if_pos ⟨h.refD hl.1, hl.2⟩
      · cases e
    · cases e
  · cases e
/-! ### dicts -/
def pkeyK : P → Option Key
  | .int i => some (.inl i)
  | .str x => some (.inr x)
  | _ => none
def pkeyT : P → Option (List Key)
  | .tup ds => mapO pkeyK ds
  | _ => none
theorem Vw.keyK {c : Cf} {d : D} {v : P} {k : Key} (h : Vw c d v) (e : pkeyK v = some k) : S3.keyK d = some k := by
  cases v <;> cases e
  · rw [h.int]; rfl
  · rw [h.str]; rfl
theorem UnA.keys {Z : Nat → Prop} {st : Sto} : ∀ {ds : List D} {vs : List P} {us : List Key}, UnA Z st ds vs → mapO pkeyK vs = some us → mapO S3.keyK ds = some us
  | _, _, us, .nil, e => e
  | _, _, us, .cons (d := d) (v := v) h a, e => by
    unfold mapO at e ⊢
    split at e
    · rename_i b bs e1 e2
      cases e
      rw [Vw.keyK (c := ⟨Z, fun _ => [], [], st, []⟩) (.inl h) e1, a.keys e2]
    · cases e
theorem Vw.keyT {c : Cf} {d : D} {v : P} {k : List Key} (h : Vw c d v) (e : pkeyT v = some k) : S3.keyT d = some k := by
  cases v <;> try cases e
  obtain ⟨ds, rfl, a⟩ := h.tup
  exact a.keys e
section
variable {κ : Type} [DecidableEq κ] {Z : Nat → Prop} {st : Sto}
theorem kv_val : ∀ {kvs : List (κ × D)} {us : List (κ × P)} {k : κ}, kvs.map (·.1) = us.map (·.1) → UnA Z st (kvs.map (·.2)) (us.map (·.2)) → match valG us k with
    | some v => ∃ d, valG kvs k = some d ∧ Un Z st d v
    | none => valG kvs k = none
  | [], [], k, _, _ => rfl
  | (k1, d) :: kvs, (k2, v) :: us, k, e, a => by
    simp only [List.map_cons, List.cons.injEq] at e a
    obtain ⟨rfl, e⟩ := e
    cases a with
    | cons h a =>
      by_cases hk : k1 = k
      · simp only [valG, List.find?_cons, hk, decide_true]
        exact ⟨d, rfl, h⟩
      · have := kv_val (k := k) e a
        simp only [valG, List.find?_cons, hk, decide_false] at this ⊢
        exact this
  | [], _ :: _, _, e, _ => by simp at e
  | _ :: _, [], _, e, _ => by simp at e
theorem kv_any {kvs : List (κ × D)} {us : List (κ × P)} {k : κ} (e : kvs.map (·.1) = us.map (·.1)) : (kvs.any fun kv => decide (kv.1 = k)) = us.any fun kv => decide (kv.1 = k) := by
  have h1 : (kvs.any fun kv => decide (kv.1 = k)) = (kvs.map (·.1)).any fun x => decide (x = k) := by rw [List.any_map]; rfl
  have h2 : (us.any fun kv => decide (kv.1 = k)) = (us.map (·.1)).any fun x => decide (x = k) := by rw [List.any_map]; rfl
  rw [h1, h2, e]
theorem kv_map : ∀ {kvs : List (κ × D)} {us : List (κ × P)} {k : κ} {d : D} {v : P}, Un Z st d v → kvs.map (·.1) = us.map (·.1) → UnA Z st (kvs.map (·.2)) (us.map (·.2)) → (kvs.map fun kv => if kv.1 = k then (kv.1, d) else kv).map (·.1) = (us.map fun kv => if kv.1 = k then (kv.1, v) else kv).map (·.1) ∧ UnA Z st ((kvs.map fun kv => if kv.1 = k then (kv.1, d) else kv).map (·.2)) ((us.map fun kv => if kv.1 = k then (kv.1, v) else kv).map (·.2))
  | [], [], k, _, _, _, _, _ => ⟨rfl, .nil⟩
  | (k1, d1) :: kvs, (k2, v1) :: us, k, d, v, hd, e, a => by
    simp only [List.map_cons, List.cons.injEq] at e a
    obtain ⟨rfl, e⟩ := e
    cases a with
    | cons h a =>
      obtain ⟨h1, h2⟩ := kv_map (k := k) hd e a
      by_cases hk : k1 = k
      · simp only [List.map_cons, hk, if_true]
        exact ⟨by rw [h1], .cons hd h2⟩
      · simp only [List.map_cons, hk, if_false]
        exact ⟨by rw [h1], .cons h h2⟩
  | [], _ :: _, _, _, _, _, e, _ => by simp at e
  | _ :: _, [], _, _, _, _, e, _ => by simp at e
theorem kv_put {kvs : List (κ × D)} {us : List (κ × P)} {k : κ} {d : D} {v : P} (hd : Un Z st d v) (e : kvs.map (·.1) = us.map (·.1)) (a : UnA Z st (kvs.map (·.2)) (us.map (·.2))) : (putG kvs k d).map (·.1) = (putG us k v).map (·.1) ∧ UnA Z st ((putG kvs k d).map (·.2)) ((putG us k v).map (·.2)) := by
  unfold putG
  rw [kv_any e]
  split
  · exact kv_map hd e a
  · simp only [List.map_append, List.map_cons, List.map_nil]
    exact ⟨by rw [e], a.append (.cons hd .nil)⟩
end
def pdget (d k : P) : Option (Option P) := match d with
  | .dK kvs => match pkeyK k with
    | some key => some (valG kvs key)
    | none => none
  | .dT kvs => match pkeyT k with
    | some key => some (valG kvs key)
    | none => none
  | _ => none
theorem Vw.dget {c : Cf} {d1 d2 : D} {v1 v2 : P} {o : Option P} (h1 : Vw c d1 v1) (h2 : Vw c d2 v2) (e : pdget v1 v2 = some o) : match (generalizing := false) o with
    | some v => ∃ d, S3.dget c.st d1 d2 = some (some d) ∧ Un c.Z c.st d v
    | none => S3.dget c.st d1 d2 = some none := by
  cases v1 <;> try cases e
  · unfold pdget at e
    dsimp only at e
    split at e
    · rename_i key ek
      cases e
      obtain ⟨n, kvs, rfl, e1, e2, a⟩ := h1.dK
      have hv := kv_val (k := key) e2 a
      have ed : S3.dget c.st (.loc n) d2 = some (valG kvs key) := by
        unfold S3.dget
        dsimp only
        rw [e1]
        dsimp only
        rw [h2.keyK ek]
      rw [ed]
      split at hv
      · rename_i u eu
        obtain ⟨d, k1, k2⟩ := hv
        exact ⟨d, by rw [k1], k2⟩
      · rename_i eu
        rw [hv]
    · cases e
  · unfold pdget at e
    dsimp only at e
    split at e
    · rename_i key ek
      cases e
      obtain ⟨n, kvs, rfl, e1, e2, a⟩ := h1.dT
      have hv := kv_val (k := key) e2 a
      have ed : S3.dget c.st (.loc n) d2 = some (valG kvs key) := by
        unfold S3.dget
        dsimp only
        rw [e1]
        dsimp only
        rw [h2.keyT ek]
      rw [ed]
      split at hv
      · rename_i u eu
        obtain ⟨d, k1, k2⟩ := hv
        exact ⟨d, by rw [k1], k2⟩
      · rename_i eu
        rw [hv]
    · cases e
def qDget : Op (P × P) := fun p => match pdget p.1 p.2 with
  | some (some d) => some (false, d)
  | _ => none
theorem op_dget5 : OpP Vw2 oDget qDget := opP_same fun c x v b w r hv e => by
  unfold qDget at e
  split at e
  · rename_i u eu
    cases e
    obtain ⟨d, k1, k2⟩ := hv.1.dget hv.2 eu
    exact ⟨rfl, d, by unfold oDget; rw [k1], k2⟩
  · cases e
def qDin (neg : Bool) : Op (P × P) := fun p => match pdget p.2 p.1 with
  | some o => some (false, .bl (if neg then !o.isSome else o.isSome))
  | none => none
theorem op_din5 {neg : Bool} : OpP Vw2 (oDin neg) (qDin neg) := opP_same fun c x v b w r hv e => by
  unfold qDin at e
  split at e
  · rename_i o eo
    cases e
    have := hv.2.dget hv.1 eo
    cases o with
    | some u =>
      obtain ⟨d, k1, k2⟩ := this
      exact ⟨rfl, _, by unfold oDin; rw [k1]; rfl, .bl _⟩
    | none => exact ⟨rfl, _, by unfold oDin; rw [this]; rfl, .bl _⟩
  · cases e
end S3

set_option maxHeartbeats 4000000
/-! S5D: slices, dict displays, methods, what is walked, comprehensions. -/
namespace S3
open PySem PyProof.Rows L2

theorem RelE.on {a b c : Cf} {d : D} {o : Opd} (h : RelE a b d o) (r : RE b) (f : Fr b c) (e : c.env = b.env) : RelE a c d o := by
  obtain ⟨fr, t, h⟩ := h
  exact ⟨fr, fun n hn => ⟨(t n hn).1.on f (t n hn).2, Nat.lt_of_lt_of_le (t n hn).2 f.len⟩, h.on r f e fun n hn => ⟨(t n hn).1.nf, (t n hn).2⟩⟩
theorem RelE.vw {a b : Cf} {d : D} {o : Opd} {v : P} (h : RelE a b d o) (r : RE b) (e : opv b.pe o = some v) : Vw b d v := by
  obtain ⟨fr, t, h⟩ := h
  exact h.vw r e
theorem Got.bnd {α β γ δ : Type} {rel : Cf → Cf → α → β → Prop} {rel' : Cf → Cf → γ → δ → Prop} {a b : Cf} {f : F3 α} {k : α → F3 γ} {k' : β → PM δ} {Q : R3 δ → PEnv → Prop} (hg : Got rel b b.env (f b.env b.st) fun r pe1 => match r with
  | .ok x => k' x pe1 Q
  | .er c => Q (.er c) pe1) (fr : Fr a b) (hk : ∀ c x y, RE c → Fr b c → c.env = b.env → rel b c x y → k' y c.pe Q → Got rel' a c.env (k x c.env c.st) Q) : Got rel' a b.env (S3.bnd f k b.env b.st) Q := by
  obtain ⟨x, x3, c, h1, h2, h3, h4, h5, h6⟩ := hg
  cases x with
  | ok y =>
    cases x3 with
    | ok x3 =>
      have := hk c x3 y h3 h4 h2 h6 h5
      rw [h2] at this
      rw [bnd_ok h1]
      exact this
    | er j => exact h6.elim
  | er i =>
    cases x3 with
    | ok x3 => exact h6.elim
    | er j => exact ⟨.er i, .er j, c, bnd_er h1, h2, h3, fr.trans h4, h5, h6⟩
/-! ### slices -/
def qI (p : PM Opd) : PM (Option Int) := pb p fun o pe Q => match opv pe o with
  | some (.int i) => Q (.ok (some i)) pe
  | _ => False
abbrev SO : F3 (Option Int) → PM (Option Int) → Prop := Sd RelB5
theorem s_asI {fa : F3 D} {p : PM Opd} (h : SE fa p) : SO (bnd fa asI) (qI p) := by
  refine h.bind fun a b d o ra rb f e hr Q hq => ?_
  split at hq
  · rename_i k hk
    obtain rfl := (hr.vw rb hk).int
    exact .mk (b := b) rfl rfl rb f hq rfl
  · exact hq.elim
def qSlice (p : PM Opd) (pl ph : PM (Option Int)) : PM Opd := pb p fun o => pb pl fun l => pb ph fun h pe Q => qOp qSl (match opv pe o with
  | some v => some (v, l, h)
  | none => none) pe Q
theorem s_sl {fa : F3 D} {fl fh : F3 (Option Int)} {p : PM Opd} {pl ph : PM (Option Int)} (h1 : SE fa p) (h2 : SO fl pl) (h3 : SO fh ph) : SE (fSl fa fl fh) (qSlice p pl ph) := by
  refine h1.bind fun a b d o ra rb f e hr Q hq => ?_
  refine Got.bnd (h2 b rb _ hq) f fun c l l' rc f2 e2 hl hq => ?_
  cases hl
  refine Got.bnd (h3 c rc _ hq) (f.trans f2) fun c' h h' rc' f3 e3 hh hq => ?_
  cases hh
  refine got_op op_sl5 rc' ((f.trans f2).trans f3) (fun u hu => ?_) hq
  split at hu
  · rename_i v hv
    cases hu
    exact ⟨((hr.on rb f2 e2).on rc f3 e3).vw rc' hv, rfl⟩
  · cases hu
/-! ### dicts -/
theorem s_newK : SE fNewK (qC (.o (.dK []))) := fun a r Q hq => got_new (st := a.st) (y := .dK []) r (Fr.refl a) (.dK (kvs := []) (by simp) rfl .nil) rfl rfl hq
theorem s_newT : SE fNewT (qC (.o (.dT []))) := fun a r Q hq => got_new (st := a.st) (y := .dT []) r (Fr.refl a) (.dT (kvs := []) (by simp) rfl .nil) rfl rfl hq
def qDget1 (p1 p2 : PM Opd) : PM Opd := pb p1 fun o1 pe Q => ∃ v, opv pe o1 = some v ∧ (match v with | .dK _ => True | .dT _ => True | _ => False) ∧ pb p2 (fun o2 pe Q => qOp (fun p => match pdget p.1 p.2 with
  | some o => some (false, o.getD .non)
  | none => none) (opv2 pe o1 o2) pe Q) pe Q
theorem op_dget15 : OpP Vw2 oDget1 (fun p => match pdget p.1 p.2 with
  | some o => some (false, o.getD .non)
  | none => none) := opP_same fun c x v b w r hv e => by
  split at e
  · rename_i o eo
    cases e
    have := hv.1.dget hv.2 eo
    cases o with
    | some u =>
      obtain ⟨d, k1, k2⟩ := this
      exact ⟨rfl, d, by unfold oDget1; rw [k1]; rfl, k2⟩
    | none => exact ⟨rfl, .non, by unfold oDget1; rw [this]; rfl, .non⟩
  · cases e
theorem s_dget1 {fa fb : F3 D} {p1 p2 : PM Opd} (h1 : SE fa p1) (h2 : SE fb p2) : SE (fDget1 fa fb) (qDget1 p1 p2) := by
  refine h1.bind fun a b d o ra rb f e hr Q hq => ?_
  obtain ⟨v, hv, hd, hq⟩ := hq
  have hi : isD3 b.st d = true := by
    have := hr.vw rb hv
    cases v with
    | dK us =>
      obtain ⟨n, kvs, rfl, e1, _⟩ := this.dK
      simp [isD3, e1]
    | dT us =>
      obtain ⟨n, kvs, rfl, e1, _⟩ := this.dT
      simp [isD3, e1]
    | _ => exact hd.elim
  have : Got RelE a b.env (bnd fb (fun y => lift oDget1 (d, y)) b.env b.st) Q := by
    refine Got.bnd (h2 b rb _ hq) f fun c d2 o2 rc f2 e2 hr2 hq => ?_
    refine got_op op_dget15 rc (f.trans f2) (fun u hu => ?_) hq
    obtain ⟨k1, k2⟩ := opv2_ok hu
    exact ⟨(hr.on rb f2 e2).vw rc k1, hr2.vw rc k2⟩
  rw [if_pos hi]
  exact this
def flatP {α : Type} : List (α × α) → List α
  | [] => []
  | (a, b) :: r => a :: b :: flatP r
def RelP (a b : Cf) (ps : List (D × D)) (os : List Opd) : Prop := RelA a b (flatP ps) os
abbrev SP : F3 (List (D × D)) → PM (List Opd) → Prop := Sd RelP
def qPair (pk pv : PM Opd) (pr : PM (List Opd)) : PM (List Opd) := pb pk fun k => pb pv fun v => pb pr fun os => qC (k :: v :: os)
theorem RelA.cons {a b c : Cf} {d : D} {o : Opd} {ds : List D} {os : List Opd} (h : RelE a b d o) (r : RE b) (f : Fr b c) (e : c.env = b.env) (fl : a.st.length ≤ b.st.length) (k : RelA b c ds os) : RelA a c (d :: ds) (o :: os) := by
  obtain ⟨fr, t, hr⟩ := h
  obtain ⟨frs, g1, g2, g3⟩ := k.ex
  refine ⟨fr :: frs, ⟨hr.on r f e fun n hn => ⟨(t n hn).1.nf, (t n hn).2⟩, g1⟩, fun fr' hf n hn => ?_, ?_⟩
  · rcases List.mem_cons.mp hf with rfl | hf
    · exact ⟨(t n hn).1.on f (t n hn).2, Nat.lt_of_lt_of_le (t n hn).2 f.len⟩
    · exact ⟨(g2 fr' hf n hn).1.back fl, (g2 fr' hf n hn).2⟩
  · rw [List.pairwise_cons]
    refine ⟨fun y hy n hn hn2 => ?_, g3⟩
    have := (g2 y hy n hn2).1.new
    have := (t n hn).2
    omega
theorem s_pairNil : SP fPairNil qNil := fun a r Q hq => .mk (b := a) (x := []) rfl rfl r (Fr.refl a) hq ⟨[], trivial, by simp, .nil⟩
theorem s_pair {fk fv : F3 D} {fr : F3 (List (D × D))} {pk pv : PM Opd} {pr : PM (List Opd)} (h1 : SE fk pk) (h2 : SE fv pv) (h3 : SP fr pr) : SP (fPair fk fv fr) (qPair pk pv pr) := by
  refine h1.bind fun a b d o ra rb f e hr Q hq => ?_
  refine Got.bnd (h2 b rb _ hq) f fun c d2 o2 rc f2 e2 hr2 hq => ?_
  refine Got.bnd (h3 c rc _ hq) (f.trans f2) fun c' ps os rc' f3 e3 hr3 hq => ?_
  refine .mk (b := c') (x := (d, d2) :: ps) rfl rfl rc' ((f.trans f2).trans f3) hq ?_
  have k : RelA b c' (d2 :: flatP ps) (o2 :: os) := RelA.cons hr2 rc f3 e3 f2.len hr3
  exact RelA.cons hr rb (f2.trans f3) (e3.trans e2) f.len k
def pkeysP : List P → Option (List (Key × P))
  | [] => some []
  | k :: v :: r => match pkeyK k, pkeysP r with
    | some key, some rest => some ((key, v) :: rest)
    | _, _ => none
  | _ => none
theorem keysP_un {Z : Nat → Prop} {st : Sto} : ∀ {ps : List (D × D)} {vs : List P} {us : List (Key × P)}, UnA Z st (flatP ps) vs → pkeysP vs = some us → ∃ kvs, keysP ps = some kvs ∧ kvs.map (·.1) = us.map (·.1) ∧ UnA Z st (kvs.map (·.2)) (us.map (·.2))
  | [], _, us, .nil, e => by
    cases e
    exact ⟨[], rfl, rfl, .nil⟩
  | (d1, d2) :: ps, _, us, .cons h1 (.cons h2 a), e => by
    unfold pkeysP at e
    split at e
    · rename_i key rest e1 e2
      cases e
      obtain ⟨kvs, k1, k2, k3⟩ := keysP_un a e2
      refine ⟨(key, d2) :: kvs, ?_, by simp [k2], .cons h2 k3⟩
      unfold keysP
      rw [Vw.keyK (c := ⟨Z, fun _ => [], [], st, []⟩) (.inl h1) e1, k1]
    · cases e
theorem merge_un {Z : Nat → Prop} {st : Sto} : ∀ {ms : List (Key × D)} {ws : List (Key × P)} {kvs : List (Key × D)} {us : List (Key × P)}, ms.map (·.1) = ws.map (·.1) → UnA Z st (ms.map (·.2)) (ws.map (·.2)) → kvs.map (·.1) = us.map (·.1) → UnA Z st (kvs.map (·.2)) (us.map (·.2)) → (mergeG kvs ms).map (·.1) = (mergeG us ws).map (·.1) ∧ UnA Z st ((mergeG kvs ms).map (·.2)) ((mergeG us ws).map (·.2))
  | [], [], kvs, us, _, _, e, a => ⟨e, a⟩
  | (k1, d) :: ms, (k2, v) :: ws, kvs, us, e1, a1, e, a => by
    simp only [List.map_cons, List.cons.injEq] at e1 a1
    obtain ⟨rfl, e1⟩ := e1
    cases a1 with
    | cons h a1 =>
      obtain ⟨h1, h2⟩ := kv_put (k := k1) h e a
      exact merge_un (kvs := putG kvs k1 d) (us := putG us k1 v) e1 a1 h1 h2
  | [], _ :: _, _, _, e, _, _, _ => by simp at e
  | _ :: _, [], _, _, e, _, _, _ => by simp at e
theorem re_setT {c : Cf} (r : RE c) {n : Nat} {y : O} (hz : ¬ c.Z n) (hf : ∀ i, n ∉ c.fp i) : RE { c with st := c.st.set n y } := by
  have k : ∀ m, m ≠ n → (c.st.set n y)[m]? = c.st[m]? := fun m hm => List.getElem?_set_ne (Ne.symm hm)
  refine ⟨r.len, fun i v e => ?_, fun i v e => ?_, fun i v e => ?_, r.fz, r.nz, r.dj, fun m z => by simpa using r.zb m z, fun i cs vs e => (r.cap i cs vs e).mono (fun _ z => z) fun m z => k m fun q => hz (q ▸ z)⟩
  · obtain ⟨d, h1, h2⟩ := r.sh i v e
    exact ⟨d, h1, h2.mono (fun _ z => z) fun m z => k m fun q => hz (q ▸ z)⟩
  · obtain ⟨d, h1, h2⟩ := r.ow i v e
    exact ⟨d, h1, h2.mono (fun _ z => z) (fun m z => k m fun q => hz (q ▸ z)) fun m z => k m fun q => hf i (q ▸ z)⟩
  · obtain ⟨d, h1, h2⟩ := r.pa i v e
    exact ⟨d, h1, h2.mono (fun _ z => z) (fun m z => k m fun q => hz (q ▸ z)) fun m z => k m fun q => hf i (q ▸ z)⟩
theorem fr_setT {a c : Cf} (f : Fr a c) {n : Nat} {y : O} (hn : a.st.length ≤ n) : Fr a { c with st := c.st.set n y } := ⟨f.z, f.zn, f.fpn, fun m hm h => by
  show (c.st.set n y)[m]? = _
  rw [List.getElem?_set_ne (by omega)]
  exact f.keep m hm h, by simpa using f.len, f.pa, f.pel⟩
theorem un_setT {Z : Nat → Prop} {st : Sto} {n : Nat} {y : O} (hz : ¬ Z n) {ds : List D} {vs : List P} (h : UnA Z st ds vs) : UnA Z (st.set n y) ds vs := h.mono (fun _ z => z) fun m z => List.getElem?_set_ne fun (q : n = m) => hz (q ▸ z)
def qDisp (p : PM (List Opd)) : PM Opd := fun pe Q => p pe fun r pe1 => match r with
  | .ok os => (match lkA os pe1 with
    | some (vs, pe2) => (match pkeysP vs with
      | some kvs => kvs.length ≤ 15 ∧ Q (.ok (.o (.dK (mergeG [] kvs)))) pe2
      | none => False)
    | none => False)
  | .er _ => False
theorem s_disp {fp : F3 (List (D × D))} {p : PM (List Opd)} (h : SP fp p) : SE (fDisp fp) (qDisp p) := by
  intro a ra Q hq
  obtain ⟨r1, f1⟩ := re_app ra (.dK [])
  obtain ⟨x, x3, b, h1, h2, h3, h4, h5, h6⟩ := h { a with st := a.st ++ [.dK []] } r1 _ hq
  cases x with
  | er i => exact h5.elim
  | ok os =>
    cases x3 with
    | er j => exact h6.elim
    | ok ps =>
      dsimp only at h5
      split at h5
      · rename_i vs pe2 e2
        split at h5
        · rename_i kvs e3
          obtain ⟨hl, h5⟩ := h5
          have tl : a.st.length < (a.st ++ [O.dK []]).length := by simp
          have tm : Tmp a { a with st := a.st ++ [.dK []] } a.st.length := ⟨fun z => absurd (ra.zb _ z) (Nat.lt_irrefl _), fun i z => absurd (ra.lt z) (Nat.lt_irrefl _), Nat.le_refl _⟩
          have hb : b.st[a.st.length]? = some (.dK []) := by
            rw [h4.keep _ tl fun i z => absurd (ra.lt z) (Nat.lt_irrefl _)]
            simp
          have tb := tm.on h4 tl
          obtain ⟨frs, g1, g2, g3⟩ := RelA.ex (a := { a with st := a.st ++ [.dK []] }) (b := b) (ds := flatP ps) h6
          -- the dict's place is no temporary of the operands
          obtain ⟨c, k1, k2, k3, k4, k5, k6, k7⟩ := leakA (a := { a with st := a.st ++ [.dK []] }) h3 h4 g1 g2 g3 e2
          have tc : Tmp a c a.st.length := by
            have : Tmp a { a with st := a.st ++ [.dK []] } a.st.length := tm
            exact this.on k5 tl
          obtain ⟨dkv, m1, m2, m3⟩ := keysP_un k6 e3
          obtain ⟨m4, m5⟩ := merge_un (kvs := []) (us := []) m2 m3 rfl .nil
          have clen : a.st.length < c.st.length := Nat.lt_of_lt_of_le tl k5.len
          refine ⟨.ok (.o (.dK (mergeG [] kvs))), .ok (.loc a.st.length), { c with st := c.st.set a.st.length (.dK (mergeG [] dkv)) }, ?_, k2.trans h2, re_setT k4 tc.nz tc.nf, fr_setT (f1.trans k5) (Nat.le_refl _), by rw [← k1] at h5; exact h5, [a.st.length], fun n hn => ?_, ?_⟩
          · unfold fDisp
            have h1' : fp a.env (a.st ++ [.dK []]) = some (.ok ps, b.st) := h1
            rw [h1']
            dsimp only
            rw [hb]
            dsimp only
            rw [m1]
            dsimp only
            rw [if_pos (by
              have : dkv.length = kvs.length := by simpa using congrArg List.length m2
              omega), k3]
          · simp at hn
            subst hn
            exact ⟨⟨tc.nz, tc.nf, tc.new⟩, by simpa using clen⟩
          · exact .dK (List.getElem?_set_self clen) m4 (un_setT tc.nz m5)
        · exact h5.elim
      · exact h5.elim
/-! ### what changes an own thing -/
def ownv (pe : PEnv) (i : Nat) : Option P := match pe[i]? with
  | some (.ow v) => some v
  | some (.pa v) => some v
  | _ => none
def mutS (pe : PEnv) (i : Nat) (v : P) : PEnv := match pe[i]? with
  | some (.ow _) => pe.set i (.ow v)
  | some (.pa _) => pe.set i (.pa v)
  | _ => pe
theorem ownv_con {c : Cf} (r : RE c) {i : Nat} {v : P} (e : ownv c.pe i = some v) : ∃ d, c.env[i]? = some (some d) ∧ Con c.Z c.st (c.fp i) d v := by
  unfold ownv at e
  split at e
  · rename_i u hu
    cases e
    exact r.ow i v hu
  · rename_i u hu
    cases e
    exact r.pa i v hu
  · cases e
theorem mutS_get {pe : PEnv} {i j : Nat} {v v' : P} (e : ownv pe i = some v) : (mutS pe i v')[j]? = if j = i then (match pe[i]? with | some (.ow _) => some (.ow v') | _ => some (.pa v')) else pe[j]? := by
  unfold ownv at e
  unfold mutS
  split at e
  · rename_i u hu
    rw [hu]
    have hi := (List.getElem?_eq_some_iff.mp hu).1
    by_cases hj : j = i
    · subst hj
      rw [if_pos rfl]
      exact List.getElem?_set_self hi
    · rw [if_neg hj]
      exact List.getElem?_set_ne (Ne.symm hj)
  · rename_i u hu
    rw [hu]
    have hi := (List.getElem?_eq_some_iff.mp hu).1
    by_cases hj : j = i
    · subst hj
      rw [if_pos rfl]
      exact List.getElem?_set_self hi
    · rw [if_neg hj]
      exact List.getElem?_set_ne (Ne.symm hj)
  · cases e
theorem re_mut {c : Cf} {i n : Nat} {v v' : P} {y : O} (r : RE c) (e : ownv c.pe i = some v) (he : c.env[i]? = some (some (.loc n))) (hn : c.fp i = [n]) (hc : Con c.Z (c.st.set n y) [n] (.loc n) v') : RE ⟨c.Z, c.fp, c.env, c.st.set n y, mutS c.pe i v'⟩ ∧ ∀ a, Fr a c → Fr a ⟨c.Z, c.fp, c.env, c.st.set n y, mutS c.pe i v'⟩ := by
  have nin : n ∈ c.fp i := by rw [hn]; simp
  have hz : ¬ c.Z n := r.nz i n nin
  have k : ∀ m, m ≠ n → (c.st.set n y)[m]? = c.st[m]? := fun m hm => List.getElem?_set_ne (Ne.symm hm)
  have kz : ∀ m, c.Z m → (c.st.set n y)[m]? = c.st[m]? := fun m z => k m fun q => hz (q ▸ z)
  have kf : ∀ j, j ≠ i → ∀ m ∈ c.fp j, (c.st.set n y)[m]? = c.st[m]? := fun j hj m z => k m fun q => hj (r.dj j i n (q ▸ z) nin)
  have g := fun j => mutS_get (j := j) (v' := v') e
  have len : (mutS c.pe i v').length = c.pe.length := by
    unfold mutS
    split <;> simp
  refine ⟨⟨r.len.trans len.symm, fun j u q => ?_, fun j u q => ?_, fun j u q => ?_, fun j m z => ?_, r.nz, r.dj, fun m z => by simpa using r.zb m z, fun j cs vs q => by
    have q : (mutS c.pe i v')[j]? = some (Sl.cap cs vs) := q
    rw [g j] at q
    split at q
    · split at q <;> cases q
    · exact (r.cap j cs vs q).mono (fun _ z => z) kz⟩, fun a f => ⟨f.z, f.zn, f.fpn, fun m hm h => ?_, by simpa using f.len, fun j u q => ?_, len.trans f.pel⟩⟩
  · have q : (mutS c.pe i v')[j]? = some (Sl.sh u) := q
    rw [g j] at q
    split at q
    · split at q <;> cases q
    · obtain ⟨d, h1, h2⟩ := r.sh j u q
      exact ⟨d, h1, h2.mono (fun _ z => z) kz⟩
  · have q : (mutS c.pe i v')[j]? = some (Sl.ow u) := q
    rw [g j] at q
    split at q
    · rename_i hj
      subst hj
      split at q <;> cases q
      refine ⟨_, he, ?_⟩
      show Con c.Z (c.st.set n y) (c.fp j) _ _
      rw [hn]
      exact hc
    · rename_i hj
      obtain ⟨d, h1, h2⟩ := r.ow j u q
      exact ⟨d, h1, h2.mono (fun _ z => z) kz (kf j hj)⟩
  · have q : (mutS c.pe i v')[j]? = some (Sl.pa u) := q
    rw [g j] at q
    split at q
    · rename_i hj
      subst hj
      split at q <;> cases q
      refine ⟨_, he, ?_⟩
      show Con c.Z (c.st.set n y) (c.fp j) _ _
      rw [hn]
      exact hc
    · rename_i hj
      obtain ⟨d, h1, h2⟩ := r.pa j u q
      exact ⟨d, h1, h2.mono (fun _ z => z) kz (kf j hj)⟩
  · obtain ⟨w, hw⟩ := r.fz j m z
    by_cases hj : j = i
    · subst hj
      refine ⟨v', ?_⟩
      show (mutS c.pe j v')[j]? = _ ∨ (mutS c.pe j v')[j]? = _
      rw [g j, if_pos rfl]
      rcases hw with hw | hw <;> rw [hw]
      · exact .inl rfl
      · exact .inr rfl
    · refine ⟨w, ?_⟩
      show (mutS c.pe i v')[j]? = _ ∨ (mutS c.pe i v')[j]? = _
      rw [g j, if_neg hj]
      exact hw
  · show (c.st.set n y)[m]? = _
    by_cases q : m = n
    · subst q
      rcases f.fpn i m nin with z | z
      · exact absurd z (h i)
      · omega
    · rw [k m q]
      exact f.keep m hm h
  · obtain ⟨⟨u', x1⟩, x2, x3⟩ := f.pa j u q
    refine ⟨?_, x2, x3⟩
    show ∃ v'', (mutS c.pe i v')[j]? = _
    rw [g j]
    by_cases hj : j = i
    · subst hj
      rw [if_pos rfl, x1]
      exact ⟨v', rfl⟩
    · rw [if_neg hj]
      exact ⟨u', x1⟩
abbrev Mt := List P → List P → Option (List P × P)
structure OpM (o : F1 (D × List D) D) (m : Mt) : Prop where
  ex : ∀ (Z : Nat → Prop) (st : Sto) (n : Nat) (ds as : List D) (us vs us' : List P) (w : P), st[n]? = some (.lst ds) → UnA Z st ds us → UnA Z st as vs → m us vs = some (us', w) → ∃ z ds', o (.loc n, as) st = some (z, st.set n (.lst ds')) ∧ UnA Z st ds' us' ∧ Un Z st z w
def qMethK (m : Mt) (i : Nat) (q : PM (List Opd)) : PM Opd := fun pe Q => ∃ us0, ownv pe i = some (.lst us0) ∧ q pe fun r pe1 => match r with
    | .er c => Q (.er c) pe1
    | .ok os => match lkA os pe1 with
      | some (vs, pe2) => match ownv pe2 i with
        | some (.lst us) => match m us vs with
          | some (us', w) => Q (.ok (.s w)) (mutS pe2 i (.lst us'))
          | none => False
        | _ => False
      | none => False
def qMeth (m : Mt) (p : PM Opd) (q : PM (List Opd)) : PM Opd := pb p fun o => match o with
  | .k i => qMethK m i q
  | _ => fun _ _ => False
theorem s_meth {o : F1 (D × List D) D} {m : Mt} {fa : F3 D} {fr : F3 (List D)} {p : PM Opd} {q : PM (List Opd)} (ho : OpM o m) (h1 : SE fa p) (h2 : SA fr q) : SE (fMeth o fa fr) (qMeth m p q) := by
  refine h1.bind fun a b d o' ra rb f e hr Q hq => ?_
  cases o' with
  | s v => exact hq.elim
  | o v => exact hq.elim
  | k i =>
    obtain ⟨us0, hu0, hq⟩ := hq
    obtain ⟨_, _, hd⟩ := hr
    have hd : b.env[i]? = some (some d) := hd
    have e0 : ∃ x, seqL b.st d = some x := by
      obtain ⟨d', g1, g2⟩ := ownv_con rb hu0
      rw [hd] at g1
      cases g1
      generalize b.fp i = fpi at g2
      cases g2 with
      | lst e1 a1 => exact ⟨_, by simp [seqL, e1]; rfl⟩
    obtain ⟨x0, hx0⟩ := e0
    show Got RelE a b.env (match seqL b.st d with | some _ => bnd fr (fun ys => lift o (d, ys)) b.env b.st | none => none) Q
    rw [hx0]
    show Got RelE a b.env (bnd fr (fun ys => lift o (d, ys)) b.env b.st) Q
    refine Got.bnd (rel := RelA) (k' := fun os pe1 Q => match lkA os pe1 with
      | some (vs, pe2) => match ownv pe2 i with
        | some (.lst us) => match m us vs with
          | some (us', w) => Q (.ok (.s w)) (mutS pe2 i (.lst us'))
          | none => False
        | _ => False
      | none => False) ?_ f fun c ds os rc f2 e2 hr2 hq => ?_
    · obtain ⟨r, r3, c, z1, z2, z3, z4, z5, z6⟩ := h2 b rb _ hq
      refine ⟨r, r3, c, z1, z2, z3, z4, ?_, z6⟩
      cases r <;> exact z5
    · split at hq
      · rename_i vs pe2 ev
        obtain ⟨c2, rfl, g2, g3, g4, g5, g6⟩ := hr2.leak rc f2 ev
        split at hq
        · rename_i us hu
          split at hq
          · rename_i us' w hw
            obtain ⟨d', j1, j2⟩ := ownv_con g4 hu
            have : d' = d := by
              rw [g2, e2, hd] at j1
              cases j1
              rfl
            subst this
            generalize hfp : c2.fp i = fpi at j2
            cases j2 with
            | @lst n ds0 _ e1 a1 =>
              obtain ⟨z, ds', k1, k2, k3⟩ := ho.ex c2.Z c2.st n ds0 ds us vs us' w e1 a1 g6 hw
              have hz : ¬ c2.Z n := g4.nz i n (by rw [hfp]; simp)
              have nl : n < c2.st.length := (List.getElem?_eq_some_iff.mp e1).1
              obtain ⟨rm, fm⟩ := re_mut (y := .lst ds') g4 hu j1 hfp (.lst (List.getElem?_set_self nl) (un_setT hz k2))
              refine .mk (b := ⟨c2.Z, c2.fp, c2.env, c2.st.set n (.lst ds'), mutS c2.pe i (.lst us')⟩) (x := z) ?_ g2 rm (fm a (f.trans g5)) hq ⟨[], by simp, ?_⟩
              · unfold lift
                rw [← g3, k1]
              · exact k3.mono (fun _ z => z) fun m z => List.getElem?_set_ne fun (q : n = m) => hz (q ▸ z)
          · exact hq.elim
        · exact hq.elim
      · exact hq.elim
def mApp : Mt := fun us vs => match vs with
  | [y] => if us.length < sizeLine then some (us ++ [y], .non) else none
  | _ => none
theorem op_app5 : OpM oApp mApp := ⟨fun Z st n ds as us vs us' w e1 a1 a2 hm => by
  unfold mApp at hm
  split at hm
  · split at hm
    · rename_i hl
      cases hm
      cases a2 with
      | cons h a2 =>
        cases a2
        refine ⟨.non, ds ++ [_], ?_, a1.append (.cons h .nil), .non⟩
        unfold oApp
        dsimp only
        rw [show ownL st (.loc n) = some (n, ds) by simp [ownL, e1]]
        exact if_pos (by rw [a1.length]; exact hl)
    · cases hm
  · cases hm⟩
def mPopAt : Mt := fun us vs => match vs with
  | [.int i] => if -(2 ^ 63) ≤ i ∧ i < 2 ^ 63 then match seqIndex? i us.length with
    | some k => match us[k]? with
      | some y => some (us.eraseIdx k, y)
      | none => none
    | none => none
    else none
  | _ => none
theorem op_popAt5 : OpM oPopAt mPopAt := ⟨fun Z st n ds as us vs us' w e1 a1 a2 hm => by
  unfold mPopAt at hm
  split at hm
  · split at hm
    · rename_i hl
      split at hm
      · rename_i k hk
        split at hm
        · rename_i y hy
          cases hm
          cases a2 with
          | cons h a2 =>
            cases a2
            cases h
            obtain ⟨z, k1, k2⟩ := a1.get hy
            refine ⟨z, ds.eraseIdx k, ?_, a1.eraseIdx k, k2⟩
            unfold oPopAt
            dsimp only
            rw [show ownL st (.loc n) = some (n, ds) by simp [ownL, e1]]
            dsimp only
            rw [if_pos hl, a1.length, hk]
            dsimp only
            rw [k1]
        · cases hm
      · cases hm
    · cases hm
  · cases hm⟩
def mPop : Mt := fun us vs => match vs with
  | [] => match us[us.length - 1]? with
    | some y => some (us.dropLast, y)
    | none => none
  | _ => none
theorem op_pop5 : OpM oPop mPop := ⟨fun Z st n ds as us vs us' w e1 a1 a2 hm => by
  unfold mPop at hm
  split at hm
  · split at hm
    · rename_i y hy
      cases hm
      cases a2
      obtain ⟨z, k1, k2⟩ := a1.get hy
      refine ⟨z, ds.dropLast, ?_, a1.dropLast, k2⟩
      unfold oPop
      dsimp only
      rw [show ownL st (.loc n) = some (n, ds) by simp [ownL, e1]]
      dsimp only
      rw [a1.length, k1]
    · cases hm
  · cases hm⟩
def mExt : Mt := fun us vs => match vs with
  | [.lst es] => if us.length + es.length ≤ sizeLine then some (us ++ es, .non) else none
  | _ => none
theorem op_ext5 : OpM oExt mExt := ⟨fun Z st n ds as us vs us' w e1 a1 a2 hm => by
  unfold mExt at hm
  split at hm
  · split at hm
    · rename_i hl
      cases hm
      cases a2 with
      | cons h a2 =>
        cases a2
        cases h with
        | @lst m es _ z e2 a3 =>
          refine ⟨.non, ds ++ es, ?_, a1.append a3, .non⟩
          unfold oExt
          dsimp only
          rw [show ownL st (.loc n) = some (n, ds) by simp [ownL, e1], show ownL st (.loc m) = some (m, es) by simp [ownL, e2]]
          exact if_pos (by rw [a1.length, a3.length]; exact hl)
    · cases hm
  · cases hm⟩
end S3

set_option maxHeartbeats 4000000
/-! S5E: what is walked, targets, comprehensions. -/
namespace S3
open PySem PyProof.Rows L2

/-! ### what is walked -/
def RelS (_ b : Cf) (src : Src) (vs : List P) : Prop := ∀ c, Fr b c → ∀ i, match (generalizing := false) vs[i]? with
  | some v => ∃ d, src c.st i = some (some d) ∧ Un c.Z c.st d v
  | none => src c.st i = some none
abbrev SS : F3 Src → PM (List P) → Prop := Sd RelS
theorem relS_of {a b : Cf} {src : Src} {vs : List P} (h : ∀ c, Fr b c → ∃ ds, UnA c.Z c.st ds vs ∧ ∀ i, src c.st i = some ds[i]?) : RelS a b src vs := fun c f i => by
  obtain ⟨ds, h1, h2⟩ := h c f
  split
  · rename_i v hv
    obtain ⟨d, k1, k2⟩ := h1.get hv
    exact ⟨d, by rw [h2, k1], k2⟩
  · rename_i hv
    have hl : ds.length ≤ i := by rw [h1.length]; exact List.getElem?_eq_none_iff.mp hv
    rw [h2, List.getElem?_eq_none hl]
def qOver (f : P → Option (List P)) (p : PM Opd) : PM (List P) := pb p fun o pe Q => match lk1 o pe with
  | some (v, pe') => match f v with
    | some vs => Q (.ok vs) pe'
    | none => False
  | none => False
theorem s_over {fa : F3 D} {k : D → F3 Src} {f : P → Option (List P)} {p : PM Opd} (h : SE fa p) (hk : ∀ c d v vs, RE c → Un c.Z c.st d v → f v = some vs → ∃ src, k d c.env c.st = some (.ok src, c.st) ∧ RelS c c src vs) : SS (bnd fa k) (qOver f p) := by
  refine h.bind fun a b d o ra rb fr e hr Q hq => ?_
  split at hq
  · rename_i v pe' e1
    split at hq
    · rename_i vs e2
      obtain ⟨frs, ht, hr⟩ := hr
      obtain ⟨c, rfl, un, l⟩ := leak1 rb fr hr ht e1
      obtain ⟨src, k1, k2⟩ := hk c d v vs l.re un e2
      exact .mk (b := c) (x := src) (by rw [← l.env, ← l.st]; exact k1) l.env l.re l.fr_ hq k2
    · exact hq.elim
  · exact hq.elim
def qOverL : PM Opd → PM (List P) := qOver pseqL
theorem s_overL {fa : F3 D} {p : PM Opd} (h : SE fa p) : SS (fOverL fa) (qOverL p) := s_over h fun c d v vs r un e => by
  obtain ⟨ds, h1, _, h3⟩ := Vw.seqL (.inl un) e
  refine ⟨srcL d, by rw [h1], relS_of fun c' f => ?_⟩
  obtain ⟨ds', k1, _, k3⟩ := Vw.seqL (c := c') (.inl (f.un r un)) e
  exact ⟨ds', k3, fun i => by unfold srcL; rw [k1]⟩
def qOverT : PM Opd → PM (List P) := qOver pseqT
theorem s_overT {fa : F3 D} {p : PM Opd} (h : SE fa p) : SS (fOverT fa) (qOverT p) := s_over h fun c d v vs r un e => by
  obtain ⟨ds, h1, h3⟩ := Vw.seqT (.inl un) e
  exact ⟨srcT ds, by rw [h1], relS_of fun c' f => ⟨ds, f.unA r h3, fun i => rfl⟩⟩
def pchars : P → Option (List P)
  | .str x => some (x.cps.toList.map fun k => .str ⟨#[k]⟩)
  | _ => none
def qOverS : PM Opd → PM (List P) := qOver pchars
theorem s_overS {fa : F3 D} {p : PM Opd} (h : SE fa p) : SS (fOverS fa) (qOverS p) := s_over h fun c d v vs r un e => by
  cases v <;> try cases e
  rename_i x
  obtain rfl := Vw.str (.inl un)
  refine ⟨srcS x, rfl, relS_of fun c' f => ⟨x.cps.toList.map fun k => .str ⟨#[k]⟩, unA_map (fun k => .str _) _, fun i => ?_⟩⟩
  unfold srcS
  rw [List.getElem?_map, Array.getElem?_toList]
  cases x.cps[i]? <;> rfl
/-- sources over arguments -/
def qOverA (f : List P → Option (List P)) (p : PM (List Opd)) : PM (List P) := pb p fun os pe Q => match lkA os pe with
  | some (vs, pe') => match f vs with
    | some us => Q (.ok us) pe'
    | none => False
  | none => False
theorem s_overA {fa : F3 (List D)} {k : List D → F3 Src} {f : List P → Option (List P)} {p : PM (List Opd)} (h : SA fa p) (hk : ∀ c ds vs us, RE c → UnA c.Z c.st ds vs → f vs = some us → ∃ src, k ds c.env c.st = some (.ok src, c.st) ∧ RelS c c src us) : SS (bnd fa k) (qOverA f p) := by
  refine h.bind fun a b d o ra rb fr e hr Q hq => ?_
  split at hq
  · rename_i vs pe' e1
    split at hq
    · rename_i us e2
      obtain ⟨c, rfl, g2, g3, g4, g5, g6⟩ := hr.leak rb fr e1
      obtain ⟨src, k1, k2⟩ := hk c d vs us g4 g6 e2
      exact .mk (b := c) (x := src) (by rw [← g2, ← g3]; exact k1) g2 g4 g5 hq k2
    · exact hq.elim
  · exact hq.elim
def prange : List P → Option (List P)
  | [.int j] => if -(2 ^ 62) ≤ j ∧ j < 2 ^ 62 then some ((List.range j.toNat).map fun i => .int (i : Nat)) else none
  | _ => none
def qOverR : PM (List Opd) → PM (List P) := qOverA prange
theorem s_overR {fa : F3 (List D)} {p : PM (List Opd)} (h : SA fa p) : SS (fOverR fa) (qOverR p) := s_overA h fun c ds vs us r un e => by
  unfold prange at e
  split at e
  · split at e
    · rename_i hj
      cases e
      cases un with
      | cons h a =>
        cases a
        cases h
        rename_i j
        refine ⟨srcR 0 j.toNat, if_pos hj, relS_of fun c' f => ⟨(List.range j.toNat).map fun i => .int (i : Nat), unA_map (fun i => .int _) _, fun i => srcR_eq⟩⟩
    · cases e
  · cases e
def penumL : List P → Option (List P)
  | [.lst vs] => some (vs.mapIdx fun i v => .tup [.int (i : Nat), v])
  | [.lcon vs] => some (vs.mapIdx fun i v => .tup [.int (i : Nat), v])
  | _ => none
theorem enum_un {Z : Nat → Prop} {st : Sto} {ds : List D} {vs : List P} (h : UnA Z st ds vs) : UnA Z st (ds.mapIdx fun i d => .tup [.int (i : Nat), d]) (vs.mapIdx fun i v => .tup [.int (i : Nat), v]) := by
  suffices ∀ (ds : List D) (vs : List P), UnA Z st ds vs → ∀ k : Nat, UnA Z st (ds.mapIdx fun i d => .tup [.int ((i + k : Nat) : Int), d]) (vs.mapIdx fun i v => .tup [.int ((i + k : Nat) : Int), v]) from this ds vs h 0
  intro ds vs h
  induction h using UnA.rec (motive_1 := fun _ _ _ => True) with
  | nil => exact fun _ => .nil
  | cons h a _ ih =>
    intro k
    rw [List.mapIdx_cons, List.mapIdx_cons]
    refine .cons (.tup (.cons (.int _) (.cons h .nil))) ?_
    have := ih (k + 1)
    simpa [Nat.add_assoc, Nat.add_comm 1 k] using this
  | _ => trivial
def qOverE : PM (List Opd) → PM (List P) := qOverA penumL
theorem s_overE {fa : F3 (List D)} {p : PM (List Opd)} (h : SA fa p) : SS (fOverE fa) (qOverE p) := s_overA h fun c ds vs us r un e => by
  have key : ∀ v xs, vs = [v] → pseqL v = some xs → us = xs.mapIdx (fun i v => .tup [.int (i : Nat), v]) → ∃ src, (match ds with | [d] => (match seqL c.st d with | some _ => some (R3.ok (srcE d), c.st) | none => none) | _ => none) = some (.ok src, c.st) ∧ RelS c c src us := fun v xs hv hx hu => by
    subst hv
    cases un with
    | @cons d _ _ _ h a =>
      cases a
      obtain ⟨es, h1, _, h3⟩ := Vw.seqL (.inl h) hx
      refine ⟨srcE d, by dsimp only; rw [h1], relS_of fun c' f => ?_⟩
      obtain ⟨es', k1, _, k3⟩ := Vw.seqL (c := c') (.inl (f.un r h)) hx
      refine ⟨es'.mapIdx fun i d => .tup [.int (i : Nat), d], by rw [hu]; exact enum_un k3, fun i => ?_⟩
      unfold srcE
      rw [k1, List.getElem?_mapIdx]
      show some (match es'[i]? with | some x => some (D.tup [D.int (i : Nat), x]) | none => none) = _
      cases es'[i]? <;> rfl
  unfold penumL at e
  split at e
  · cases e
    exact key _ _ rfl rfl rfl
  · cases e
    exact key _ _ rfl rfl rfl
  · cases e
def penumT : List P → Option (List P)
  | [v] => match pseqT v with
    | some vs => some (vs.mapIdx fun i v => .tup [.int (i : Nat), v])
    | none => none
  | _ => none
def qOverET : PM (List Opd) → PM (List P) := qOverA penumT
theorem s_overET {fa : F3 (List D)} {p : PM (List Opd)} (h : SA fa p) : SS (fOverET fa) (qOverET p) := s_overA h fun c ds vs us r un e => by
  unfold penumT at e
  split at e
  · split at e
    · rename_i xs hx
      cases e
      cases un with
      | @cons d _ _ _ h a =>
        cases a
        obtain ⟨es, h1, h3⟩ := Vw.seqT (.inl h) hx
        refine ⟨srcET es, by dsimp only; rw [h1], relS_of fun c' f => ⟨es.mapIdx fun i d => .tup [.int (i : Nat), d], enum_un (f.unA r h3), fun i => ?_⟩⟩
        unfold srcET
        rw [List.getElem?_mapIdx]
        cases es[i]? <;> rfl
    · cases e
  · cases e
def pzip : List P → List P → List P
  | x :: xs, y :: ys => .tup [x, y] :: pzip xs ys
  | _, _ => []
def pzipA : List P → Option (List P)
  | [.tup xs, .tup ys] => some (pzip xs ys)
  | _ => none
def dzip : List D → List D → List D
  | x :: xs, y :: ys => .tup [x, y] :: dzip xs ys
  | _, _ => []
theorem dzip_get : ∀ (xs ys : List D) (i : Nat), (dzip xs ys)[i]? = match xs[i]?, ys[i]? with
    | some x, some y => some (.tup [x, y])
    | _, _ => none
  | [], ys, i => by simp [dzip]
  | x :: xs, [], i => by
    simp only [dzip, List.getElem?_nil]
    cases (x :: xs)[i]? <;> rfl
  | x :: xs, y :: ys, 0 => rfl
  | x :: xs, y :: ys, i + 1 => by
    simp only [dzip, List.getElem?_cons_succ]
    exact dzip_get xs ys i
theorem zip_un {Z : Nat → Prop} {st : Sto} : ∀ {ds es : List D} {vs us : List P}, UnA Z st ds vs → UnA Z st es us → UnA Z st (dzip ds es) (pzip vs us)
  | _, _, _, _, .nil, _ => .nil
  | _, _, _, _, .cons _ _, .nil => .nil
  | _, _, _, _, .cons h a, .cons k b => .cons (.tup (.cons h (.cons k .nil))) (zip_un a b)
def qOverZ : PM (List Opd) → PM (List P) := qOverA pzipA
theorem s_overZ {fa : F3 (List D)} {p : PM (List Opd)} (h : SA fa p) : SS (fOverZ fa) (qOverZ p) := s_overA h fun c ds vs us r un e => by
  unfold pzipA at e
  split at e
  · cases e
    cases un with
    | cons h a =>
      cases a with
      | cons k a =>
        cases a
        cases h with
        | @tup xs _ a1 =>
          cases k with
          | @tup ys _ a2 =>
            refine ⟨srcZ xs ys, rfl, relS_of fun c' f => ⟨dzip xs ys, zip_un (f.unA r a1) (f.unA r a2), fun i => ?_⟩⟩
            unfold srcZ
            rw [dzip_get]
            try rfl
  · cases e

/-! ### targets -/
def setC (c : Cf) (i : Nat) (d : D) (x : Sl) (fr : List Nat) : Cf := ⟨c.Z, fun j => if j = i then fr else c.fp j, c.env.set i (some d), c.st, c.pe.set i x⟩
theorem re_asg {c : Cf} {i : Nat} {s0 x : Sl} {d : D} {fr : List Nat} (r : RE c) (h0 : c.pe[i]? = some s0) (hp : ∀ v, s0 ≠ .pa v) (hx : (∃ v, x = .sh v ∧ Un c.Z c.st d v ∧ fr = []) ∨ (∃ v, x = .ow v ∧ Con c.Z c.st fr d v)) (ht : ∀ n ∈ fr, ¬ c.Z n ∧ ∀ i, n ∉ c.fp i) : RE (setC c i d x fr) ∧ ∀ a, Fr a c → (∀ n ∈ fr, a.st.length ≤ n) → Fr a (setC c i d x fr) := by
  have hi : i < c.pe.length := (List.getElem?_eq_some_iff.mp h0).1
  have hie : i < c.env.length := by rw [r.len]; exact hi
  have gi : (setC c i d x fr).pe[i]? = some x := List.getElem?_set_self hi
  have ge : (setC c i d x fr).env[i]? = some (some d) := List.getElem?_set_self hie
  have gn : ∀ j, j ≠ i → (setC c i d x fr).pe[j]? = c.pe[j]? := fun j hj => List.getElem?_set_ne (Ne.symm hj)
  have gne : ∀ j, j ≠ i → (setC c i d x fr).env[j]? = c.env[j]? := fun j hj => List.getElem?_set_ne (Ne.symm hj)
  have fi : (setC c i d x fr).fp i = fr := if_pos rfl
  have fn : ∀ j, j ≠ i → (setC c i d x fr).fp j = c.fp j := fun j hj => if_neg hj
  refine ⟨⟨by simp [setC, r.len], fun j u q => ?_, fun j u q => ?_, fun j u q => ?_, fun j n z => ?_, fun j n z => ?_, fun j k n z y => ?_, r.zb, fun j cs vs q => by
      by_cases hj : j = i
      · subst hj
        rw [gi] at q
        cases q
        rcases hx with ⟨v, hv, _⟩ | ⟨v, hv, _⟩ <;> cases hv
      · rw [gn j hj] at q
        exact r.cap j cs vs q⟩, fun a f hnew => ⟨f.z, f.zn, fun j n z => ?_, f.keep, f.len, fun j u q => ?_, by simpa [setC] using f.pel⟩⟩
  · by_cases hj : j = i
    · subst hj
      rw [gi] at q
      cases q
      rcases hx with ⟨v, hv, un, _⟩ | ⟨v, hv, _⟩
      · cases hv
        exact ⟨d, ge, un⟩
      · cases hv
    · rw [gn j hj] at q
      obtain ⟨d2, h1, h2⟩ := r.sh j u q
      exact ⟨d2, (gne j hj).trans h1, h2⟩
  · by_cases hj : j = i
    · subst hj
      rw [gi] at q
      cases q
      rcases hx with ⟨v, hv, un, _⟩ | ⟨v, hv, cn⟩
      · cases hv
      · cases hv
        exact ⟨d, ge, by rw [fi]; exact cn⟩
    · rw [gn j hj] at q
      obtain ⟨d2, h1, h2⟩ := r.ow j u q
      exact ⟨d2, (gne j hj).trans h1, by rw [fn j hj]; exact h2⟩
  · by_cases hj : j = i
    · subst hj
      rw [gi] at q
      cases q
      rcases hx with ⟨v, hv, un, _⟩ | ⟨v, hv, cn⟩ <;> cases hv
    · rw [gn j hj] at q
      obtain ⟨d2, h1, h2⟩ := r.pa j u q
      exact ⟨d2, (gne j hj).trans h1, by rw [fn j hj]; exact h2⟩
  · by_cases hj : j = i
    · subst hj
      rw [fi] at z
      rcases hx with ⟨v, hv, un, hf⟩ | ⟨v, hv, cn⟩
      · rw [hf] at z
        simp at z
      · exact ⟨v, .inl (by rw [gi, hv])⟩
    · rw [fn j hj] at z
      obtain ⟨w, hw⟩ := r.fz j n z
      exact ⟨w, by rw [gn j hj]; exact hw⟩
  · by_cases hj : j = i
    · subst hj
      rw [fi] at z
      exact (ht n z).1
    · rw [fn j hj] at z
      exact r.nz j n z
  · by_cases hj : j = i
    · subst hj
      rw [fi] at z
      by_cases hk : k = j
      · exact hk.symm
      · rw [fn k hk] at y
        exact absurd y ((ht n z).2 k)
    · rw [fn j hj] at z
      by_cases hk : k = i
      · subst hk
        rw [fi] at y
        exact absurd z ((ht n y).2 j)
      · rw [fn k hk] at y
        exact r.dj j k n z y
  · by_cases hj : j = i
    · subst hj
      rw [fi] at z
      exact .inr (hnew n z)
    · rw [fn j hj] at z
      exact f.fpn j n z
  · obtain ⟨⟨u', x1⟩, x2, x3⟩ := f.pa j u q
    have hj : j ≠ i := fun z => by
      subst z
      rw [h0] at x1
      cases x1
      exact hp u' rfl
    exact ⟨⟨u', by rw [gn j hj]; exact x1⟩, by rw [fn j hj]; exact x2, by rw [gne j hj]; exact x3⟩
abbrev T5 := P → PEnv → Option PEnv
abbrev Tn5 := List P → PEnv → Option PEnv
def SdG' {α β : Type} (rel : Cf → α → β → Prop) (g : α → Env3 → Sto → Option (Env3 × Sto)) (t : β → PEnv → Option PEnv) (W : List Nat) : Prop := ∀ c d v pe', RE c → rel c d v → t v c.pe = some pe' → ∃ b, g d c.env c.st = some (b.env, c.st) ∧ b.pe = pe' ∧ b.Z = c.Z ∧ b.st = c.st ∧ RE b ∧ (∀ a, Fr a c → Fr a b) ∧ ∀ j, j ∉ W → b.env[j]? = c.env[j]?
abbrev SG : G3 → T5 → List Nat → Prop := SdG' fun c d v => Un c.Z c.st d v
abbrev SGs : Gn3 → Tn5 → List Nat → Prop := SdG' fun c d v => UnA c.Z c.st d v
def tV (i : Nat) : T5 := fun v pe => match pe[i]? with
  | some (.pa _) => none
  | some _ => some (pe.set i (.sh v))
  | none => none
theorem s_gVar (i : Nat) : SG (gVar i) (tV i) [i] := fun c d v pe' r un e => by
  unfold tV at e
  split at e
  · cases e
  · rename_i s0 hne h0
    cases e
    obtain ⟨h1, h2⟩ := re_asg (x := .sh v) (fr := []) r h0 (fun v z => hne v z) (.inl ⟨v, rfl, un, rfl⟩) (by simp)
    exact ⟨setC c i d (.sh v) [], rfl, rfl, rfl, rfl, h1, fun a f => h2 a f (by simp), fun j hj => List.getElem?_set_ne fun z => hj (by simp [z])⟩
  · cases e
def tNil : Tn5 := fun vs pe => match vs with
  | [] => some pe
  | _ => none
def tCons (t : T5) (r : Tn5) : Tn5 := fun vs pe => match vs with
  | v :: rest => match t v pe with
    | some pe1 => r rest pe1
    | none => none
  | _ => none
theorem s_gNil : SGs gNil3 S3.tNil [] := fun c d v pe' r un e => by
  unfold S3.tNil at e
  split at e
  · cases e
    cases un
    exact ⟨c, rfl, rfl, rfl, rfl, r, fun _ f => f, fun _ _ => rfl⟩
  · cases e
theorem s_gCons {g : G3} {gs : Gn3} {t : T5} {ts : Tn5} {W W2 : List Nat} (h1 : SG g t W) (h2 : SGs gs ts W2) : SGs (gCons3 g gs) (S3.tCons t ts) (W ++ W2) := fun c d v pe' r un e => by
  unfold S3.tCons at e
  split at e
  · split at e
    · rename_i pe1 e1
      cases un with
      | cons h u =>
        obtain ⟨b, k1, rfl, k3, k4, k5, k6, k7⟩ := h1 c _ _ _ r h e1
        obtain ⟨b2, l1, l2, l3, l4, l5, l6, l7⟩ := h2 b _ _ _ k5 (by show UnA b.Z b.st _ _; rw [k3, k4]; exact u) e
        refine ⟨b2, ?_, l2, l3.trans k3, l4.trans k4, l5, fun a f => l6 a (k6 a f), fun j hj => (l7 j fun z => hj (List.mem_append_right _ z)).trans (k7 j fun z => hj (List.mem_append_left _ z))⟩
        unfold gCons3
        dsimp only
        rw [k1]
        dsimp only
        rw [← k4, l1]
    · cases e
  · cases e
def tT (n : Nat) (t : Tn5) : T5 := fun v pe => match pseqT v with
  | some vs => if vs.length = n then t vs pe else none
  | none => none
theorem s_gTup (n : Nat) {gs : Gn3} {ts : Tn5} {W : List Nat} (h : SGs gs ts W) : SG (gTup3 n gs) (tT n ts) W := fun c d v pe' r un e => by
  unfold tT at e
  split at e
  · rename_i vs e1
    split at e
    · rename_i hl
      obtain ⟨ds, k1, k2⟩ := Vw.seqT (.inl un) e1
      obtain ⟨b, l1, l2⟩ := h c _ _ _ r k2 e
      refine ⟨b, ?_, l2⟩
      unfold gTup3
      rw [k1]
      dsimp only
      rw [if_pos (by rw [k2.length]; exact hl), l1]
    · cases e
  · cases e

/-! ### comprehensions -/
def wipeP (pe : PEnv) : List Nat → PEnv
  | [] => pe
  | v :: vs => (wipeP pe vs).set v .no
def restP (pe0 pe : PEnv) : List Nat → PEnv
  | [] => pe
  | v :: vs => (restP pe0 pe vs).set v (match pe0[v]? with
    | some (.sh x) => .sh x
    | _ => .no)
def noPa (pe : PEnv) (vs : List Nat) : Bool := vs.all fun v => match pe[v]? with
  | some (.pa _) => false
  | some _ => true
  | none => false
theorem wipeE_len (env : Env3) : ∀ vs : List Nat, (wipeE env vs).length = env.length
  | [] => rfl
  | v :: vs => by simp [wipeE, wipeE_len env vs]
theorem wipeE_ne (env : Env3) {i : Nat} : ∀ {vs : List Nat}, i ∉ vs → (wipeE env vs)[i]? = env[i]?
  | [], _ => rfl
  | v :: vs, h => by
    simp only [List.mem_cons, not_or] at h
    rw [wipeE, List.getElem?_set_ne (Ne.symm h.1), wipeE_ne env h.2]
theorem wipeP_len (pe : PEnv) : ∀ vs : List Nat, (wipeP pe vs).length = pe.length
  | [] => rfl
  | v :: vs => by simp [wipeP, wipeP_len pe vs]
theorem wipeP_ne (pe : PEnv) {i : Nat} : ∀ {vs : List Nat}, i ∉ vs → (wipeP pe vs)[i]? = pe[i]?
  | [], _ => rfl
  | v :: vs, h => by
    simp only [List.mem_cons, not_or] at h
    rw [wipeP, List.getElem?_set_ne (Ne.symm h.1), wipeP_ne pe h.2]
theorem wipeP_in (pe : PEnv) {i : Nat} (hi : i < pe.length) : ∀ {vs : List Nat}, i ∈ vs → (wipeP pe vs)[i]? = some .no
  | v :: vs, h => by
    by_cases hv : v = i
    · subst hv
      rw [wipeP, List.getElem?_set_self (by rw [wipeP_len]; exact hi)]
    · rw [wipeP, List.getElem?_set_ne hv]
      refine wipeP_in pe hi ?_
      rcases List.mem_cons.mp h with h | h
      · exact absurd h.symm hv
      · exact h
theorem restP_len (pe0 pe : PEnv) : ∀ vs : List Nat, (restP pe0 pe vs).length = pe.length
  | [] => rfl
  | v :: vs => by simp [restP, restP_len pe0 pe vs]
theorem restP_ne (pe0 pe : PEnv) {i : Nat} : ∀ {vs : List Nat}, i ∉ vs → (restP pe0 pe vs)[i]? = pe[i]?
  | [], _ => rfl
  | v :: vs, h => by
    simp only [List.mem_cons, not_or] at h
    rw [restP, List.getElem?_set_ne (Ne.symm h.1), restP_ne pe0 pe h.2]
theorem restP_in (pe0 pe : PEnv) {i : Nat} (hi : i < pe.length) : ∀ {vs : List Nat}, i ∈ vs → (restP pe0 pe vs)[i]? = some (match pe0[i]? with
    | some (.sh x) => .sh x
    | _ => .no)
  | v :: vs, h => by
    by_cases hv : v = i
    · subst hv
      rw [restP, List.getElem?_set_self (by rw [restP_len]; exact hi)]
    · rw [restP, List.getElem?_set_ne hv]
      refine restP_in pe0 pe hi ?_
      rcases List.mem_cons.mp h with h | h
      · exact absurd h.symm hv
      · exact h
theorem noPa_ok {pe : PEnv} {vs : List Nat} (h : noPa pe vs = true) {i : Nat} {v : P} (e : pe[i]? = some (Sl.pa v)) : i ∉ vs := fun hi => by
  have := List.all_eq_true.mp h i hi
  rw [e] at this
  cases this
/-- the slots of a block are another's from here on -/
def swC (b : Cf) (env : Env3) (pe : PEnv) (vs : List Nat) : Cf := ⟨b.Z, fun j => if j ∈ vs then [] else b.fp j, env, b.st, pe⟩
theorem re_sw {a b : Cf} {env : Env3} {pe : PEnv} {vs : List Nat} (r : RE b) (f : Fr a b) (hl : env.length = pe.length) (hl2 : pe.length = b.pe.length) (he : ∀ i, i ∉ vs → env[i]? = b.env[i]?) (hp : ∀ i, i ∉ vs → pe[i]? = b.pe[i]?) (hin : ∀ i s, i ∈ vs → pe[i]? = some s → s = .no ∨ ∃ v d, s = .sh v ∧ env[i]? = some (some d) ∧ Un b.Z b.st d v) (hna : ∀ (i : Nat) (v : P), a.pe[i]? = some (Sl.pa v) → i ∉ vs) : RE (swC b env pe vs) ∧ Fr a (swC b env pe vs) := by
  have fpx : ∀ j n, n ∈ (swC b env pe vs).fp j → j ∉ vs ∧ n ∈ b.fp j := fun j n z => by
    have z : n ∈ (if j ∈ vs then [] else b.fp j) := z
    by_cases hj : j ∈ vs
    · rw [if_pos hj] at z
      simp at z
    · rw [if_neg hj] at z
      exact ⟨hj, z⟩
  have fpn : ∀ j, j ∉ vs → (swC b env pe vs).fp j = b.fp j := fun j hj => if_neg hj
  refine ⟨⟨hl, fun i v q => ?_, fun i v q => ?_, fun i v q => ?_, fun i n z => ?_, fun i n z => r.nz i n (fpx i n z).2, fun i j n z y => r.dj i j n (fpx i n z).2 (fpx j n y).2, r.zb, fun i cs us q => by
      by_cases hi : i ∈ vs
      · rcases hin i _ hi q with z | ⟨u, d, z, h1, h2⟩ <;> cases z
      · have q : pe[i]? = _ := q
        rw [hp i hi] at q
        exact r.cap i cs us q⟩, ⟨f.z, f.zn, fun i n z => f.fpn i n (fpx i n z).2, f.keep, f.len, fun i v q => ?_, hl2.trans f.pel⟩⟩
  · by_cases hi : i ∈ vs
    · rcases hin i _ hi q with z | ⟨u, d, z, h1, h2⟩
      · cases z
      · cases z
        exact ⟨d, h1, h2⟩
    · have q : pe[i]? = _ := q
      rw [hp i hi] at q
      obtain ⟨d, h1, h2⟩ := r.sh i v q
      exact ⟨d, (he i hi).trans h1, h2⟩
  · by_cases hi : i ∈ vs
    · rcases hin i _ hi q with z | ⟨u, d, z, h1, h2⟩ <;> cases z
    · have q : pe[i]? = _ := q
      rw [hp i hi] at q
      obtain ⟨d, h1, h2⟩ := r.ow i v q
      exact ⟨d, (he i hi).trans h1, by rw [fpn i hi]; exact h2⟩
  · by_cases hi : i ∈ vs
    · rcases hin i _ hi q with z | ⟨u, d, z, h1, h2⟩ <;> cases z
    · have q : pe[i]? = _ := q
      rw [hp i hi] at q
      obtain ⟨d, h1, h2⟩ := r.pa i v q
      exact ⟨d, (he i hi).trans h1, by rw [fpn i hi]; exact h2⟩
  · obtain ⟨hi, z⟩ := fpx i n z
    obtain ⟨w, hw⟩ := r.fz i n z
    refine ⟨w, ?_⟩
    show pe[i]? = _ ∨ pe[i]? = _
    rw [hp i hi]
    exact hw
  · have hi := hna i v q
    obtain ⟨⟨u', x1⟩, x2, x3⟩ := f.pa i v q
    exact ⟨⟨u', by show pe[i]? = _; rw [hp i hi]; exact x1⟩, (fpn i hi).trans x2, (he i hi).trans x3⟩
theorem re_wipe {a b : Cf} {env0 : Env3} {vs : List Nat} (r : RE b) (f : Fr a b) (hl : env0.length = b.env.length) (he : ∀ i, i ∉ vs → env0[i]? = b.env[i]?) (hna : ∀ (i : Nat) (v : P), a.pe[i]? = some (Sl.pa v) → i ∉ vs) : RE (swC b env0 (wipeP b.pe vs) vs) ∧ Fr a (swC b env0 (wipeP b.pe vs) vs) :=
  re_sw r f (by rw [hl, r.len, wipeP_len]) (wipeP_len _ _) he (fun i hi => wipeP_ne _ hi) (fun i s hi q => .inl (by
    have hl : i < b.pe.length := by
      have := (List.getElem?_eq_some_iff.mp q).1
      rwa [wipeP_len] at this
    rw [wipeP_in _ hl hi] at q
    cases q
    rfl)) hna
theorem Tmp.sw {a b : Cf} {env : Env3} {pe : PEnv} {vs : List Nat} {n : Nat} (t : Tmp a b n) : Tmp a (swC b env pe vs) n := ⟨t.nz, fun i z => by
  have z : n ∈ (if i ∈ vs then [] else b.fp i) := z
  split at z
  · simp at z
  · exact t.nf i z, t.new⟩
def loopQ (t : T5) (qt : PM Bool) (qe : PM Opd) (vs : List Nat) : List P → List P → PEnv → (List P → PEnv → Prop) → Prop
  | [], acc, pe, Q => Q acc pe
  | x :: xs, acc, pe, Q => match t x pe with
    | some pe1 => qt pe1 fun r pe2 => match r with
      | .ok true => qe pe2 fun r pe3 => match r with
        | .ok o => match lk1 o pe3 with
          | some (v, pe4) => acc.length < sizeLine ∧ loopQ t qt qe vs xs (acc ++ [v]) (wipeP pe4 vs) Q
          | none => False
        | .er _ => False
      | .ok false => loopQ t qt qe vs xs acc (wipeP pe2 vs) Q
      | .er _ => False
    | none => False
theorem src_next {a : Cf} {src : Src} {v : P} {vs : List P} {i : Nat} (h : ∀ c, Fr a c → ∀ j, match (generalizing := false) (v :: vs)[j]? with
  | some v => ∃ d, src c.st (i + j) = some (some d) ∧ Un c.Z c.st d v
  | none => src c.st (i + j) = some none) : ∀ c, Fr a c → ∀ j, match (generalizing := false) vs[j]? with
  | some v => ∃ d, src c.st (i + 1 + j) = some (some d) ∧ Un c.Z c.st d v
  | none => src c.st (i + 1 + j) = some none := fun c fc j => by
  have := h c fc (j + 1)
  rw [List.getElem?_cons_succ, show i + (j + 1) = i + 1 + j by omega] at this
  exact this
theorem loopC_q {a : Cf} {src : Src} {gt : G3} {t : T5} {ft : F3 Bool} {qt : PM Bool} {fe : F3 D} {qe : PM Opd} {W vs : List Nat} {env0 : Env3} {D0 : Nat} {Q : List P → PEnv → Prop} (hg : SG gt t W) (ht : ST ft qt) (he : SE fe qe) (hW : ∀ j ∈ W, j ∈ vs) (hna : ∀ (i : Nat) (v : P), a.pe[i]? = some (Sl.pa v) → i ∉ vs) : ∀ (items : List P) (n i : Nat) (acc : List P) (accD : List D) (c : Cf), RE c → Fr a c → c.env = env0 → Tmp a c D0 → c.st[D0]? = some (.lst accD) → UnA c.Z c.st accD acc → (∀ c', Fr a c' → ∀ j, match (generalizing := false) items[j]? with
  | some v => ∃ d, src c'.st (i + j) = some (some d) ∧ Un c'.Z c'.st d v
  | none => src c'.st (i + j) = some none) → items.length < n → loopQ t qt qe vs items acc c.pe Q → ∃ c' accD' acc', loopC src gt ft fe env0 D0 n i c.st = some c'.st ∧ RE c' ∧ Fr a c' ∧ c'.env = env0 ∧ Tmp a c' D0 ∧ c'.st[D0]? = some (.lst accD') ∧ UnA c'.Z c'.st accD' acc' ∧ Q acc' c'.pe
  | items, 0, i, acc, accD, c, r, f, e, tm, hD, ua, hs, hn, hq => by omega
  | [], n + 1, i, acc, accD, c, r, f, e, tm, hD, ua, hs, hn, hq => by
    have h0 := hs c f 0
    exact ⟨c, accD, acc, by unfold loopC; rw [show src c.st i = some none from h0], r, f, e, tm, hD, ua, hq⟩
  | x :: xs, n + 1, i, acc, accD, c, r, f, e, tm, hD, ua, hs, hn, hq => by
    unfold loopQ at hq
    obtain ⟨d, h0, un⟩ := hs c f 0
    have h0 : src c.st i = some (some d) := h0
    have dl : D0 < c.st.length := (List.getElem?_eq_some_iff.mp hD).1
    split at hq
    · rename_i pe1 e1
      obtain ⟨b, k1, rfl, k3, k4, k5, k6, k7⟩ := hg c d x _ r un e1
      have fcb : Fr c b := k6 c (Fr.refl c)
      obtain ⟨y, y3, b1, l1, l2, l3, l4, l5, l6⟩ := ht b k5 _ hq
      rw [k4] at l1
      have fcb1 := fcb.trans l4
      have tm1 := tm.on fcb1 dl
      have hD1 : b1.st[D0]? = some (.lst accD) := (fcb1.keep D0 dl tm.nf).trans hD
      have el : env0.length = b1.env.length := by
        rw [l2, k5.len, fcb.pel, ← r.len, e]
      have ee : ∀ i, i ∉ vs → env0[i]? = b1.env[i]? := fun i hi => by
        rw [l2, k7 i fun z => hi (hW i z), e]
      cases y with
      | er _ => exact l5.elim
      | ok y =>
        cases y3 with
        | er _ => exact l6.elim
        | ok y3 =>
          have l6 : y3 = y := l6
          subst l6
          cases y3 with
          | false =>
            obtain ⟨rw_, fw⟩ := re_wipe l3 (f.trans fcb1) el ee hna
            obtain ⟨c', aD, ac, m1, m2⟩ := loopC_q hg ht he hW hna xs n (i + 1) acc accD _ rw_ fw rfl tm1.sw hD1 (fcb1.unA r ua) (src_next hs) (by simpa using hn) l5
            refine ⟨c', aD, ac, ?_, m2⟩
            unfold loopC
            rw [h0]
            dsimp only
            rw [← e, k1]
            dsimp only
            rw [l1]
            dsimp only
            rw [e]
            exact m1
          | true =>
            obtain ⟨z, z3, b2, p1, p2, p3, p4, p5, p6⟩ := he b1 l3 _ l5
            cases z with
            | er _ => exact p5.elim
            | ok o =>
              cases z3 with
              | er _ => exact p6.elim
              | ok dy =>
                dsimp only at p5
                split at p5
                · rename_i v pe4 e4
                  obtain ⟨hl, p5⟩ := p5
                  obtain ⟨fr, t6, p6⟩ := p6
                  obtain ⟨b3, rfl, g2, g3⟩ := leak1 p3 p4 p6 t6 e4
                  have d1 : D0 < b1.st.length := Nat.lt_of_lt_of_le dl fcb1.len
                  have tm3 := tm1.on g3.fr_ d1
                  have fcb3 := fcb1.trans g3.fr_
                  have hD3 : b3.st[D0]? = some (.lst accD) := (fcb3.keep D0 dl tm.nf).trans hD
                  have d3 : D0 < b3.st.length := (List.getElem?_eq_some_iff.mp hD3).1
                  have ua3 : UnA b3.Z b3.st (accD ++ [dy]) (acc ++ [v]) := (fcb3.unA r ua).append (.cons g2 .nil)
                  have r4 := re_setT (y := .lst (accD ++ [dy])) g3.re tm3.nz tm3.nf
                  have f4 := fr_setT (y := .lst (accD ++ [dy])) (f.trans fcb3) tm3.new
                  obtain ⟨rw_, fw⟩ := re_wipe r4 f4 (env0 := env0) (by
                    show env0.length = b3.env.length
                    rw [g3.env, p2]
                    exact el) (fun i hi => by
                    show env0[i]? = b3.env[i]?
                    rw [g3.env, p2]
                    exact ee i hi) hna
                  have tm4 : Tmp a { b3 with st := b3.st.set D0 (.lst (accD ++ [dy])) } D0 := ⟨tm3.nz, tm3.nf, tm3.new⟩
                  obtain ⟨c', aD, ac, m1, m2⟩ := loopC_q hg ht he hW hna xs n (i + 1) (acc ++ [v]) (accD ++ [dy]) _ rw_ fw rfl tm4.sw (List.getElem?_set_self d3) (un_setT tm3.nz ua3) (src_next hs) (by simpa using hn) p5
                  refine ⟨c', aD, ac, ?_, m2⟩
                  unfold loopC
                  rw [h0]
                  dsimp only
                  rw [← e, k1]
                  dsimp only
                  rw [l1]
                  dsimp only
                  rw [← l2, p1]
                  dsimp only
                  rw [← g3.st, hD3]
                  dsimp only
                  rw [if_pos (by rw [ua.length]; exact hl), e]
                  exact m1
                · exact p5.elim
    · exact hq.elim
def qLc (n : Nat) (vs : List Nat) (ps : PM (List P)) (t : T5) (qt : PM Bool) (qe : PM Opd) : PM Opd := pb ps fun items pe Q => items.length < n ∧ noPa pe vs = true ∧ loopQ t qt qe vs items [] (wipeP pe vs) fun acc pe' => Q (.ok (.o (.lst acc))) (restP pe pe' vs)
theorem s_lc {n : Nat} {vs W : List Nat} {fi : F3 Src} {gt : G3} {ft : F3 Bool} {fe : F3 D} {ps : PM (List P)} {t : T5} {qt : PM Bool} {qe : PM Opd} (hi : SS fi ps) (hg : SG gt t W) (ht : ST ft qt) (he : SE fe qe) (hW : ∀ j ∈ W, j ∈ vs) : SE (fLc n vs fi gt ft fe) (qLc n vs ps t qt qe) := by
  refine hi.bind fun a0 a src items ra0 ra f0 e0 hr Q hq => ?_
  obtain ⟨hn, hna, hq⟩ := hq
  have hna : ∀ (i : Nat) (v : P), a.pe[i]? = some (Sl.pa v) → i ∉ vs := fun i v => noPa_ok hna
  obtain ⟨r1, f1⟩ := re_app ra (.lst [])
  have tm : Tmp a { a with st := a.st ++ [.lst []] } a.st.length := ⟨fun z => absurd (ra.zb _ z) (Nat.lt_irrefl _), fun i z => absurd (ra.lt z) (Nat.lt_irrefl _), Nat.le_refl _⟩
  obtain ⟨rw_, fw⟩ := re_wipe (env0 := wipeE a.env vs) (vs := vs) r1 f1 (wipeE_len _ _) (fun i hi => wipeE_ne _ hi) hna
  obtain ⟨c', aD, acc, m1, m2, m3, m4, m5, m6, m7, m8⟩ := loopC_q (a := a) (src := src) (D0 := a.st.length) hg ht he hW hna items n 0 [] [] _ rw_ fw rfl tm.sw (by simp [swC]) .nil (fun c' fc j => by
    have := hr c' fc j
    rw [Nat.zero_add]
    exact this) hn hq
  obtain ⟨rs, fs⟩ := re_sw (env := a.env) (pe := restP a.pe c'.pe vs) (vs := vs) m2 m3 (by rw [restP_len, ra.len, m3.pel]) (restP_len _ _ _) (fun i hi => by rw [m4]; exact (wipeE_ne a.env hi).symm) (fun i hi => restP_ne _ _ hi) (fun i s hi q => by
    have hl : i < c'.pe.length := by
      have := (List.getElem?_eq_some_iff.mp q).1
      rwa [restP_len] at this
    rw [restP_in _ _ hl hi] at q
    cases q
    split
    · rename_i x hx
      obtain ⟨d, h1, h2⟩ := ra.sh i x hx
      exact .inr ⟨x, d, rfl, h1, m3.un ra h2⟩
    · exact .inl rfl) hna
  refine .mk (b := swC c' a.env (restP a.pe c'.pe vs) vs) (x := .loc a.st.length) ?_ rfl rs (f0.trans fs) m8 ⟨[a.st.length], fun n hn => ?_, .lst m6 m7⟩
  · have m1 : loopC src gt ft fe (wipeE a.env vs) a.st.length n 0 (a.st ++ [.lst []]) = some c'.st := m1
    rw [m1]
    rfl
  · simp at hn
    subst hn
    exact ⟨(m5.sw).back f0.len, (List.getElem?_eq_some_iff.mp m6).1⟩
end S3

set_option maxHeartbeats 4000000
/-! S5F: dict comprehensions. -/
namespace S3
open PySem PyProof.Rows L2
def loopQD (t : T5) (qt : PM Bool) (qk qv : PM Opd) (vs : List Nat) : List P → List (Key × P) → PEnv → (List (Key × P) → PEnv → Prop) → Prop
  | [], acc, pe, Q => Q acc pe
  | x :: xs, acc, pe, Q => match t x pe with
    | some pe1 => qt pe1 fun r pe2 => match r with
      | .ok true => qk pe2 fun r pe3 => match r with
        | .ok o => qv pe3 fun r pe4 => match r with
          | .ok o2 => match opv pe4 o with
            | some kv => match pkeyK kv with
              | some key => match lk1 o2 pe4 with
                | some (v, pe5) => acc.length < sizeLine ∧ loopQD t qt qk qv vs xs (putG acc key v) (wipeP pe5 vs) Q
                | none => False
              | none => False
            | none => False
          | .er _ => False
        | .er _ => False
      | .ok false => loopQD t qt qk qv vs xs acc (wipeP pe2 vs) Q
      | .er _ => False
    | none => False
theorem loopD_q {a : Cf} {src : Src} {gt : G3} {t : T5} {ft : F3 Bool} {qt : PM Bool} {fk fv : F3 D} {qk qv : PM Opd} {W vs : List Nat} {env0 : Env3} {D0 : Nat} {Q : List (Key × P) → PEnv → Prop} (hg : SG gt t W) (ht : ST ft qt) (hk : SE fk qk) (he : SE fv qv) (hW : ∀ j ∈ W, j ∈ vs) (hna : ∀ (i : Nat) (v : P), a.pe[i]? = some (Sl.pa v) → i ∉ vs) : ∀ (items : List P) (n i : Nat) (acc : List (Key × P)) (accD : List (Key × D)) (c : Cf), RE c → Fr a c → c.env = env0 → Tmp a c D0 → c.st[D0]? = some (.dK accD) → accD.map (·.1) = acc.map (·.1) → UnA c.Z c.st (accD.map (·.2)) (acc.map (·.2)) → (∀ c', Fr a c' → ∀ j, match (generalizing := false) items[j]? with
  | some v => ∃ d, src c'.st (i + j) = some (some d) ∧ Un c'.Z c'.st d v
  | none => src c'.st (i + j) = some none) → items.length < n → loopQD t qt qk qv vs items acc c.pe Q → ∃ c' accD' acc', loopD src gt ft fk fv env0 D0 n i c.st = some c'.st ∧ RE c' ∧ Fr a c' ∧ c'.env = env0 ∧ Tmp a c' D0 ∧ c'.st[D0]? = some (.dK accD') ∧ accD'.map (·.1) = acc'.map (·.1) ∧ UnA c'.Z c'.st (accD'.map (·.2)) (acc'.map (·.2)) ∧ Q acc' c'.pe
  | items, 0, i, acc, accD, c, r, f, e, tm, hD, uk, ua, hs, hn, hq => by omega
  | [], n + 1, i, acc, accD, c, r, f, e, tm, hD, uk, ua, hs, hn, hq => by
    have h0 := hs c f 0
    exact ⟨c, accD, acc, by unfold loopD; rw [show src c.st i = some none from h0], r, f, e, tm, hD, uk, ua, hq⟩
  | x :: xs, n + 1, i, acc, accD, c, r, f, e, tm, hD, uk, ua, hs, hn, hq => by
    unfold loopQD at hq
    obtain ⟨d, h0, un⟩ := hs c f 0
    have h0 : src c.st i = some (some d) := h0
    have dl : D0 < c.st.length := (List.getElem?_eq_some_iff.mp hD).1
    split at hq
    · rename_i pe1 e1
      obtain ⟨b, k1, rfl, k3, k4, k5, k6, k7⟩ := hg c d x _ r un e1
      have fcb : Fr c b := k6 c (Fr.refl c)
      obtain ⟨y, y3, b1, l1, l2, l3, l4, l5, l6⟩ := ht b k5 _ hq
      rw [k4] at l1
      have fcb1 := fcb.trans l4
      have tm1 := tm.on fcb1 dl
      have hD1 : b1.st[D0]? = some (.dK accD) := (fcb1.keep D0 dl tm.nf).trans hD
      have el : env0.length = b1.env.length := by
        rw [l2, k5.len, fcb.pel, ← r.len, e]
      have ee : ∀ i, i ∉ vs → env0[i]? = b1.env[i]? := fun i hi => by
        rw [l2, k7 i fun z => hi (hW i z), e]
      cases y with
      | er _ => exact l5.elim
      | ok y =>
        cases y3 with
        | er _ => exact l6.elim
        | ok y3 =>
          have l6 : y3 = y := l6
          subst l6
          cases y3 with
          | false =>
            obtain ⟨rw_, fw⟩ := re_wipe l3 (f.trans fcb1) el ee hna
            obtain ⟨c', aD, ac, m1, m2⟩ := loopD_q hg ht hk he hW hna xs n (i + 1) acc accD _ rw_ fw rfl tm1.sw hD1 uk (fcb1.unA r ua) (src_next hs) (by simpa using hn) l5
            refine ⟨c', aD, ac, ?_, m2⟩
            unfold loopD
            rw [h0]
            dsimp only
            rw [← e, k1]
            dsimp only
            rw [l1]
            dsimp only
            rw [e]
            exact m1
          | true =>
            obtain ⟨z, z3, b2, p1, p2, p3, p4, p5, p6⟩ := hk b1 l3 _ l5
            cases z with
            | er _ => exact p5.elim
            | ok o =>
              cases z3 with
              | er _ => exact p6.elim
              | ok dy =>
                obtain ⟨z2, z4, b2', p7, p8, p9, p10, p11, p12⟩ := he b2 p3 _ p5
                cases z2 with
                | er _ => exact p11.elim
                | ok o2 =>
                  cases z4 with
                  | er _ => exact p12.elim
                  | ok dz =>
                    dsimp only at p11
                    split at p11
                    · rename_i kv ekv
                      have vk := (RelE.on (a := b1) p6 p3 p10 p8).vw p9 ekv
                      split at p11
                      · rename_i key ekey
                        split at p11
                        · rename_i v pe4 e4
                          obtain ⟨hl, p11⟩ := p11
                          obtain ⟨fr, t6, p12⟩ := p12
                          obtain ⟨b3, rfl, g2, g3⟩ := leak1 p9 p10 p12 t6 e4
                          have d1 : D0 < b1.st.length := Nat.lt_of_lt_of_le dl fcb1.len
                          have fcb3 := fcb1.trans (p4.trans g3.fr_)
                          have tm3 := tm1.on (p4.trans g3.fr_) d1
                          have hD3 : b3.st[D0]? = some (.dK accD) := (fcb3.keep D0 dl tm.nf).trans hD
                          have d3 : D0 < b3.st.length := (List.getElem?_eq_some_iff.mp hD3).1
                          obtain ⟨uk3, ua3⟩ := kv_put (k := key) g2 uk (fcb3.unA r ua)
                          have r4 := re_setT (y := .dK (putG accD key dz)) g3.re tm3.nz tm3.nf
                          have f4 := fr_setT (y := .dK (putG accD key dz)) (f.trans fcb3) tm3.new
                          obtain ⟨rw_, fw⟩ := re_wipe r4 f4 (env0 := env0) (by
                            show env0.length = b3.env.length
                            rw [g3.env, p8, p2]
                            exact el) (fun i hi => by
                            show env0[i]? = b3.env[i]?
                            rw [g3.env, p8, p2]
                            exact ee i hi) hna
                          have tm4 : Tmp a { b3 with st := b3.st.set D0 (.dK (putG accD key dz)) } D0 := ⟨tm3.nz, tm3.nf, tm3.new⟩
                          obtain ⟨c', aD, ac, m1, m2⟩ := loopD_q hg ht hk he hW hna xs n (i + 1) (putG acc key v) (putG accD key dz) _ rw_ fw rfl tm4.sw (List.getElem?_set_self d3) uk3 (un_setT tm3.nz ua3) (src_next hs) (by simpa using hn) p11
                          refine ⟨c', aD, ac, ?_, m2⟩
                          unfold loopD
                          rw [h0]
                          dsimp only
                          rw [← e, k1]
                          dsimp only
                          rw [l1]
                          dsimp only
                          rw [← l2, p1]
                          dsimp only
                          rw [← p2, p7]
                          dsimp only
                          rw [vk.keyK ekey]
                          dsimp only
                          rw [← g3.st, hD3]
                          dsimp only
                          rw [if_pos (by
                            have : accD.length = acc.length := by simpa using congrArg List.length uk
                            omega), e]
                          exact m1
                        · exact p11.elim
                      · exact p11.elim
                    · exact p11.elim
    · exact hq.elim
def qDc (n : Nat) (vs : List Nat) (ps : PM (List P)) (t : T5) (qt : PM Bool) (qk qv : PM Opd) : PM Opd := pb ps fun items pe Q => items.length < n ∧ noPa pe vs = true ∧ loopQD t qt qk qv vs items [] (wipeP pe vs) fun acc pe' => Q (.ok (.o (.dK acc))) (restP pe pe' vs)
theorem s_dc {n : Nat} {vs W : List Nat} {fi : F3 Src} {gt : G3} {ft : F3 Bool} {fk fv : F3 D} {ps : PM (List P)} {t : T5} {qt : PM Bool} {qk qv : PM Opd} (hi : SS fi ps) (hg : SG gt t W) (ht : ST ft qt) (hk : SE fk qk) (he : SE fv qv) (hW : ∀ j ∈ W, j ∈ vs) : SE (fDc n vs fi gt ft fk fv) (qDc n vs ps t qt qk qv) := by
  refine hi.bind fun a0 a src items ra0 ra f0 e0 hr Q hq => ?_
  obtain ⟨hn, hna, hq⟩ := hq
  have hna : ∀ (i : Nat) (v : P), a.pe[i]? = some (Sl.pa v) → i ∉ vs := fun i v => noPa_ok hna
  obtain ⟨r1, f1⟩ := re_app ra (.dK [])
  have tm : Tmp a { a with st := a.st ++ [.dK []] } a.st.length := ⟨fun z => absurd (ra.zb _ z) (Nat.lt_irrefl _), fun i z => absurd (ra.lt z) (Nat.lt_irrefl _), Nat.le_refl _⟩
  obtain ⟨rw_, fw⟩ := re_wipe (env0 := wipeE a.env vs) (vs := vs) r1 f1 (wipeE_len _ _) (fun i hi => wipeE_ne _ hi) hna
  obtain ⟨c', aD, acc, m1, m2, m3, m4, m5, m6, mk, m7, m8⟩ := loopD_q (a := a) (src := src) (D0 := a.st.length) hg ht hk he hW hna items n 0 [] [] _ rw_ fw rfl tm.sw (by simp [swC]) rfl .nil (fun c' fc j => by
    have := hr c' fc j
    rw [Nat.zero_add]
    exact this) hn hq
  obtain ⟨rs, fs⟩ := re_sw (env := a.env) (pe := restP a.pe c'.pe vs) (vs := vs) m2 m3 (by rw [restP_len, ra.len, m3.pel]) (restP_len _ _ _) (fun i hi => by rw [m4]; exact (wipeE_ne a.env hi).symm) (fun i hi => restP_ne _ _ hi) (fun i s hi q => by
    have hl : i < c'.pe.length := by
      have := (List.getElem?_eq_some_iff.mp q).1
      rwa [restP_len] at this
    rw [restP_in _ _ hl hi] at q
    cases q
    split
    · rename_i x hx
      obtain ⟨d, h1, h2⟩ := ra.sh i x hx
      exact .inr ⟨x, d, rfl, h1, m3.un ra h2⟩
    · exact .inl rfl) hna
  refine .mk (b := swC c' a.env (restP a.pe c'.pe vs) vs) (x := .loc a.st.length) ?_ rfl rs (f0.trans fs) m8 ⟨[a.st.length], fun n hn => ?_, .dK m6 mk m7⟩
  · have m1 : loopD src gt ft fk fv (wipeE a.env vs) a.st.length n 0 (a.st ++ [.dK []]) = some c'.st := m1
    rw [m1]
    rfl
  · simp at hn
    subst hn
    exact ⟨(m5.sw).back f0.len, (List.getElem?_eq_some_iff.mp m6).1⟩
end S3

set_option maxHeartbeats 4000000
/-! S5G: statements over values. -/
namespace S3
open PySem PyProof.Rows L2

inductive Flp where
  | nx
  | rt (own : Bool) (v : P)
  | bk
  | ct
  | er (c : Nat)
abbrev PS := PEnv → (Flp → PEnv → Prop) → Prop
structure TmR (a b : Cf) (n : Nat) : Prop where
  nz : ¬ b.Z n
  nf : ∀ i, n ∉ b.fp i
  new : a.st.length ≤ n ∨ ∃ i v, a.pe[i]? = some (Sl.ow v) ∧ n ∈ a.fp i
def RelF (a b : Cf) : Flp → Fl → Prop
  | .nx, .nx => True
  | .bk, .bk => True
  | .ct, .ct => True
  | .er i, .er j => i = j
  | .rt false v, .rt d => Un b.Z b.st d v
  | .rt true v, .rt d => ∃ fr : List Nat, (∀ n ∈ fr, TmR a b n ∧ n < b.st.length) ∧ Con b.Z b.st fr d v
  | _, _ => False
theorem RelF.back {a b c : Cf} {r : Flp} {x : Fl} (ra : RE a) (f : Fr a b) (rb : RE b) (h : RelF b c r x) : RelF a c r x := by
  cases r with
  | rt o v =>
    cases o with
    | false => cases x <;> exact h
    | true =>
      cases x with
      | rt d =>
        obtain ⟨fr, t, h⟩ := h
        refine ⟨fr, fun n hn => ⟨⟨(t n hn).1.nz, (t n hn).1.nf, ?_⟩, (t n hn).2⟩, h⟩
        rcases (t n hn).1.new with z | ⟨i, w, z1, z2⟩
        · exact .inl (Nat.le_trans f.len z)
        · rcases f.fpn i n z2 with y | y
          · obtain ⟨u, hu | hu⟩ := ra.fz i n y
            · exact .inr ⟨i, u, hu, y⟩
            · obtain ⟨⟨u', x1⟩, _⟩ := f.pa i u hu
              rw [z1] at x1
              cases x1
          · exact .inl y
      | _ => exact h
  | _ => cases x <;> exact h
def GotS (a : Cf) (g : Option (Fl × Env3 × Sto)) (Q : Flp → PEnv → Prop) : Prop := ∃ r r3 b, g = some (r3, b.env, b.st) ∧ RE b ∧ Fr a b ∧ Q r b.pe ∧ RelF a b r r3
def SdS (f : FS) (p : PS) : Prop := ∀ a, RE a → ∀ Q, p a.pe Q → GotS a (f a.env a.st) Q
theorem GotS.mk {a b : Cf} {g : Option (Fl × Env3 × Sto)} {Q : Flp → PEnv → Prop} {r : Flp} {x : Fl} (e : g = some (x, b.env, b.st)) (h2 : RE b) (h3 : Fr a b) (h4 : Q r b.pe) (h5 : RelF a b r x) : GotS a g Q := ⟨r, x, b, e, h2, h3, h4, h5⟩
theorem GotS.back {a b : Cf} {g : Option (Fl × Env3 × Sto)} {Q : Flp → PEnv → Prop} (ra : RE a) (f : Fr a b) (rb : RE b) (h : GotS b g Q) : GotS a g Q := by
  obtain ⟨r, x, c, e, h2, h3, h4, h5⟩ := h
  exact ⟨r, x, c, e, h2, f.trans h3, h4, h5.back ra f rb⟩
theorem eff_ok {α : Type} {f : F3 α} {k : α → FS} {env : Env3} {st st1 : Sto} {a : α} (h : f env st = some (.ok a, st1)) : eff f k env st = k a env st1 := by
  unfold eff
  rw [h]
theorem eff_er {α : Type} {f : F3 α} {k : α → FS} {env : Env3} {st st1 : Sto} {c : Nat} (h : f env st = some (.er c, st1)) : eff f k env st = some (.er c, env, st1) := by
  unfold eff
  rw [h]
def qe {α : Type} (p : PM α) (k : α → PS) : PS := fun pe Q => p pe fun r pe1 => match r with
  | .ok x => k x pe1 Q
  | .er c => Q (.er c) pe1
theorem s_eff {α β : Type} {rel : Cf → Cf → α → β → Prop} {f : F3 α} {p : PM β} {k : α → FS} {k' : β → PS} (h : Sd rel f p) (hk : ∀ a b x y, RE a → RE b → Fr a b → b.env = a.env → rel a b x y → ∀ Q, k' y b.pe Q → GotS a (k x b.env b.st) Q) : SdS (eff f k) (qe p k') := by
  intro a ra Q hq
  obtain ⟨r, r3, b, h1, h2, h3, h4, h5, h6⟩ := h a ra _ hq
  cases r with
  | ok y =>
    cases r3 with
    | ok x =>
      have := hk a b x y ra h3 h4 h2 h6 Q h5
      rw [h2] at this
      rw [eff_ok h1]
      exact this
    | er j => exact h6.elim
  | er i =>
    cases r3 with
    | ok x => exact h6.elim
    | er j => exact ⟨.er i, .er j, b, by rw [eff_er h1, h2], h3, h4, h5, h6⟩
def qNop : PS := fun pe Q => Q .nx pe
def qNow (r : Flp) : PS := fun pe Q => Q r pe
theorem s_nop : SdS fNop qNop := fun a r Q hq => .mk (b := a) (x := .nx) rfl r (Fr.refl a) hq trivial
theorem s_brk : SdS (fun env st => some (.bk, env, st)) (qNow .bk) := fun a r Q hq => .mk (b := a) (x := .bk) rfl r (Fr.refl a) hq trivial
theorem s_cnt : SdS (fun env st => some (.ct, env, st)) (qNow .ct) := fun a r Q hq => .mk (b := a) (x := .ct) rfl r (Fr.refl a) hq trivial
theorem s_retN : SdS (fun env st => some (.rt .non, env, st)) (qNow (.rt false .non)) := fun a r Q hq => .mk (b := a) (x := .rt .non) rfl r (Fr.refl a) hq (Un.non)
theorem s_rai (i : Nat) : SdS (fun env st => some (.er i, env, st)) (qNow (.er i)) := fun a r Q hq => .mk (b := a) (x := .er i) rfl r (Fr.refl a) hq rfl
def qSeq (p q : PS) : PS := fun pe Q => p pe fun r pe1 => match r with
  | .nx => q pe1 Q
  | r => Q r pe1
theorem s_seq {f g : FS} {p q : PS} (h1 : SdS f p) (h2 : SdS g q) : SdS (fSeq f g) (qSeq p q) := by
  intro a ra Q hq
  obtain ⟨r, x, b, k1, k2, k3, k4, k5⟩ := h1 a ra _ hq
  cases r with
  | nx =>
    cases x <;> try exact k5.elim
    have := (h2 b k2 Q k4).back ra k3 k2
    unfold fSeq
    rw [k1]
    exact this
  | rt o v =>
    refine ⟨_, x, b, ?_, k2, k3, k4, k5⟩
    unfold fSeq
    rw [k1]
    cases x <;> first | rfl | (cases o <;> exact k5.elim)
  | bk =>
    refine ⟨_, x, b, ?_, k2, k3, k4, k5⟩
    unfold fSeq
    rw [k1]
    cases x <;> first | rfl | exact k5.elim
  | ct =>
    refine ⟨_, x, b, ?_, k2, k3, k4, k5⟩
    unfold fSeq
    rw [k1]
    cases x <;> first | rfl | exact k5.elim
  | er c =>
    refine ⟨_, x, b, ?_, k2, k3, k4, k5⟩
    unfold fSeq
    rw [k1]
    cases x <;> first | rfl | exact k5.elim
def qIfS (t : PM Bool) (p q : PS) : PS := qe t fun b => if b = true then p else q
theorem s_ifS {ft : F3 Bool} {f g : FS} {t : PM Bool} {p q : PS} (ht : ST ft t) (h1 : SdS f p) (h2 : SdS g q) : SdS (fIfS ft f g) (qIfS t p q) :=
  s_eff ht fun a b x y ra rb f e hr Q hq => by
    cases hr
    cases x with
    | true =>
      simp only [if_true] at hq ⊢
      exact (h1 b rb Q hq).back ra f rb
    | false =>
      simp only [Bool.false_eq_true, if_false] at hq ⊢
      exact (h2 b rb Q hq).back ra f rb
def qRetK (i : Nat) (pe : PEnv) (Q : Flp → PEnv → Prop) : Prop := match pe[i]? with
  | some (.sh v) => Q (.rt false v) pe
  | some (.ow v) => Q (.rt true v) (pe.set i .no)
  | _ => False
def qRet (p : PM Opd) : PS := qe p fun o pe Q => match o with
  | .s v => Q (.rt false v) pe
  | .o v => Q (.rt true v) pe
  | .k i => qRetK i pe Q
theorem s_ret {fa : F3 D} {p : PM Opd} (h : SE fa p) : SdS (fRet fa) (qRet p) :=
  s_eff h fun a b d o ra rb f e hr Q hq => by
    obtain ⟨fr, t, hr⟩ := hr
    cases o with
    | s v => exact .mk (b := b) (x := .rt d) rfl rb f hq hr
    | o v => exact .mk (b := b) (x := .rt d) rfl rb f hq ⟨fr, fun n hn => ⟨⟨(t n hn).1.nz, (t n hn).1.nf, .inl (t n hn).1.new⟩, (t n hn).2⟩, hr⟩
    | k i =>
      have hr : b.env[i]? = some (some d) := hr
      have hq : qRetK i b.pe Q := hq
      unfold qRetK at hq
      split at hq
      · rename_i v hv
        obtain ⟨d', h1, h2⟩ := rb.sh i v hv
        rw [hr] at h1
        cases h1
        exact .mk (b := b) (x := .rt d) rfl rb f hq h2
      · rename_i v hv
        obtain ⟨d', h1, h2⟩ := rb.ow i v hv
        rw [hr] at h1
        cases h1
        have hna : ∀ (j : Nat) (w : P), a.pe[j]? = some (Sl.pa w) → j ∉ [i] := fun j w hw hj => by
          obtain ⟨⟨u, x1⟩, _⟩ := f.pa j w hw
          simp at hj
          subst hj
          rw [hv] at x1
          cases x1
        have hi : i < b.pe.length := (List.getElem?_eq_some_iff.mp hv).1
        obtain ⟨rs, fs⟩ := re_sw (env := b.env) (pe := b.pe.set i .no) (vs := [i]) rb f (by simp [rb.len]) (by simp) (fun _ _ => rfl) (fun j hj => List.getElem?_set_ne (by simpa using Ne.symm (by simpa using hj))) (fun j s hj q => by
          simp at hj
          subst hj
          rw [List.getElem?_set_self hi] at q
          cases q
          exact .inl rfl) hna
        refine .mk (b := swC b b.env (b.pe.set i .no) [i]) (x := .rt d) rfl rs fs hq ⟨b.fp i, fun n hn => ⟨⟨rb.nz i n hn, fun j z => ?_, ?_⟩, rb.lt hn⟩, h2⟩
        · have z : n ∈ (if j ∈ [i] then [] else b.fp j) := z
          split at z
          · simp at z
          · rename_i hj
            exact hj (by simp [rb.dj j i n z hn])
        · rcases f.fpn i n hn with y | y
          · obtain ⟨u, hu | hu⟩ := ra.fz i n y
            · exact .inr ⟨i, u, hu, y⟩
            · exact absurd (by simp : i ∈ [i]) (hna i u hu)
          · exact .inl y
      · exact hq.elim
def qDrop (p : PM Opd) : PS := qe p fun _ pe Q => Q .nx pe
theorem s_drop {fa : F3 D} {p : PM Opd} (h : SE fa p) : SdS (fDrop fa) (qDrop p) :=
  s_eff h fun a b d o ra rb f e hr Q hq => .mk (b := b) (x := .nx) rfl rb f hq trivial

/-! ### assignments -/
/-- one operand into a slot -/
def asg1 (i : Nat) (o : Opd) (pe : PEnv) : Option PEnv := match o with
  | .o v => match pe[i]? with
    | some (.pa _) => none
    | some _ => some (pe.set i (.ow v))
    | none => none
  | o => match lk1 o pe with
    | some (v, pe1) => tV i v pe1
    | none => none
theorem asg1_ok {a b : Cf} {i : Nat} {d : D} {o : Opd} {pe' : PEnv} (rb : RE b) (f : Fr a b) (hr : RelE a b d o) (e : asg1 i o b.pe = some pe') : ∃ c, c.env = b.env.set i (some d) ∧ c.st = b.st ∧ c.pe = pe' ∧ RE c ∧ Fr a c := by
  obtain ⟨fr, t, hr⟩ := hr
  have shared : ∀ v pe1, lk1 o b.pe = some (v, pe1) → tV i v pe1 = some pe' → ∃ c, c.env = b.env.set i (some d) ∧ c.st = b.st ∧ c.pe = pe' ∧ RE c ∧ Fr a c := fun v pe1 e1 e2 => by
    obtain ⟨c, rfl, g2, g3⟩ := leak1 rb f hr t e1
    obtain ⟨c2, k1, k2, k3, k4, k5, k6, k7⟩ := s_gVar i c d v pe' g3.re g2 e2
    unfold gVar at k1
    simp only [Option.some.injEq, Prod.mk.injEq, and_true] at k1
    exact ⟨c2, by rw [← k1, g3.env], k4.trans g3.st, k2, k5, k6 a g3.fr_⟩
  unfold asg1 at e
  split at e
  · rename_i v
    split at e
    · cases e
    · rename_i s0 hne h0
      cases e
      obtain ⟨h1, h2⟩ := re_asg (x := .ow v) (d := d) (fr := fr) rb h0 (fun v z => hne v z) (.inr ⟨v, rfl, hr⟩) fun n hn => ⟨(t n hn).1.nz, (t n hn).1.nf⟩
      exact ⟨setC b i d (.ow v) fr, rfl, rfl, rfl, h1, h2 a f fun n hn => (t n hn).1.new⟩
    · cases e
  · split at e
    · rename_i v pe1 e1
      exact shared v pe1 e1 e
    · cases e
def qSet (i : Nat) (p : PM Opd) : PS := qe p fun o pe Q => match asg1 i o pe with
  | some pe' => Q .nx pe'
  | none => False
theorem s_set {i : Nat} {fa : F3 D} {p : PM Opd} (h : SE fa p) : SdS (fAsg fa (gVar i)) (qSet i p) :=
  s_eff h fun a b d o ra rb f e hr Q hq => by
    split at hq
    · rename_i pe' e1
      obtain ⟨c, h1, h2, rfl, h4, h5⟩ := asg1_ok rb f hr e1
      exact .mk (b := c) (x := .nx) (by unfold gVar; rw [h1, h2]) h4 h5 hq trivial
    · exact hq.elim
/-- a target that is no plain name -/
def qAsg (p : PM Opd) (t : T5) : PS := qe p fun o pe Q => match lk1 o pe with
  | some (v, pe1) => match t v pe1 with
    | some pe' => Q .nx pe'
    | none => False
  | none => False
theorem s_asg {W : List Nat} {fa : F3 D} {p : PM Opd} {g : G3} {t : T5} (h : SE fa p) (hg : SG g t W) : SdS (fAsg fa g) (qAsg p t) :=
  s_eff h fun a b d o ra rb f e hr Q hq => by
    split at hq
    · rename_i v pe1 e1
      split at hq
      · rename_i pe' e2
        obtain ⟨fr, tt, hr⟩ := hr
        obtain ⟨c, rfl, g2, g3⟩ := leak1 rb f hr tt e1
        obtain ⟨c2, k1, rfl, k3, k4, k5, k6, k7⟩ := hg c d v _ g3.re g2 e2
        refine .mk (b := c2) (x := .nx) ?_ k5 (k6 a g3.fr_) hq trivial
        rw [← g3.env, ← g3.st, k1, k4]
      · exact hq.elim
    · exact hq.elim
/-- several names at once -/
def asgs : List Nat → List Opd → PEnv → Option PEnv
  | [], [], pe => some pe
  | i :: is, .o v :: os, pe => match pe[i]? with
    | some (.pa _) => none
    | some _ => asgs is os (pe.set i (.ow v))
    | none => none
  | i :: is, .s v :: os, pe => match pe[i]? with
    | some (.pa _) => none
    | some _ => asgs is os (pe.set i (.sh v))
    | none => none
  | _, _, _ => none
/-- names become values -/
def calm5 : List Opd → PEnv → Option (List Opd × PEnv)
  | [], pe => some ([], pe)
  | .k i :: os, pe => match lk1 (.k i) pe with
    | some (v, pe1) => match calm5 os pe1 with
      | some (os', pe2) => some (.s v :: os', pe2)
      | none => none
    | none => none
  | o :: os, pe => match calm5 os pe with
    | some (os', pe2) => some (o :: os', pe2)
    | none => none
theorem Lk.trans {a b c d : Cf} {fr fr2 : List Nat} (h : Lk a b c fr) (k : Lk a c d fr2) (hf : fr = []) (hf2 : fr2 = []) : Lk a b d [] := by
  subst hf hf2
  refine ⟨k.re, k.fr_, k.env.trans h.env, k.st.trans h.st, fun n z => k.z n (h.z n z), fun n z => ?_, fun i n z => h.fp i n (k.fp i n z)⟩
  rcases k.zn n z with y | y | ⟨i, y⟩
  · exact h.zn n y
  · simp at y
  · exact .inr (.inr ⟨i, h.fp i n y⟩)
theorem calm5_ok {a : Cf} : ∀ {os os' : List Opd} {frs : List (List Nat)} {ds : List D} {b : Cf} {pe' : PEnv}, RE b → Fr a b → RelAs b frs ds os → calm5 os b.pe = some (os', pe') → ∃ c, c.pe = pe' ∧ Lk a b c [] ∧ RelAs c frs ds os'
  | [], os', frs, ds, b, pe', r, f, h, e => by
    cases e
    exact ⟨b, rfl, ⟨r, f, rfl, rfl, fun _ z => z, fun _ z => .inl z, fun _ _ z => z⟩, h⟩
  | o :: os, os', frs, ds, b, pe', r, f, h, e => by
    obtain ⟨fr, frs, d, ds, rfl, rfl, h⟩ := h.cons
    have plain : (∀ i, o ≠ .k i) → (match calm5 os b.pe with | some (os', pe2) => some (o :: os', pe2) | none => none) = some (os', pe') → ∃ c, c.pe = pe' ∧ Lk a b c [] ∧ RelAs c (fr :: frs) (d :: ds) os' := fun _ e => by
      split at e
      · rename_i os2 pe2 e2
        cases e
        obtain ⟨c2, k1, k2, k3⟩ := calm5_ok r f h.2 e2
        exact ⟨c2, k1, k2, k2.relO h.1, k3⟩
      · cases e
    cases o with
    | s v => exact plain (fun i z => by cases z) e
    | o v => exact plain (fun i z => by cases z) e
    | k i =>
      have e : (match lk1 (.k i) b.pe with
        | some (v, pe1) => match calm5 os pe1 with
          | some (os', pe2) => some (Opd.s v :: os', pe2)
          | none => none
        | none => none) = some (os', pe') := e
      split at e
      · rename_i v pe1 e1
        split at e
        · rename_i os2 pe2 e2
          cases e
          obtain ⟨c, rfl, un, l⟩ := leak1 (fr := []) r f (d := d) (o := .k i) h.1 (by simp) e1
          obtain ⟨c2, k1, k2, k3⟩ := calm5_ok l.re l.fr_ (l.relAs h.2) e2
          refine ⟨c2, k1, l.trans k2 rfl rfl, ?_, k3⟩
          show Un c2.Z c2.st d v
          rw [k2.st]
          exact un.mono k2.z fun _ _ => rfl
        · cases e
      · cases e
theorem asgs_ok {a : Cf} : ∀ {is : List Nat} {os : List Opd} {frs : List (List Nat)} {ds : List D} {b : Cf} {pe' : PEnv}, RE b → Fr a b → RelAs b frs ds os → (∀ fr ∈ frs, ∀ n ∈ fr, Tmp a b n ∧ n < b.st.length) → (frs.Pairwise fun x y => ∀ n ∈ x, n ∉ y) → asgs is os b.pe = some pe' → ∃ c, c.env = (is.zip ds).foldl (fun e p => e.set p.1 (some p.2)) b.env ∧ c.st = b.st ∧ c.pe = pe' ∧ RE c ∧ Fr a c ∧ ds.length = is.length
  | [], [], frs, ds, b, pe', r, f, h, ht, hp, e => by
    obtain ⟨rfl, rfl⟩ := h.nil
    cases e
    exact ⟨b, rfl, rfl, rfl, r, f, rfl⟩
  | [], o :: os, frs, ds, b, pe', r, f, h, ht, hp, e => by cases o <;> cases e
  | i :: is, [], frs, ds, b, pe', r, f, h, ht, hp, e => by cases e
  | i :: is, o :: os, frs, ds, b, pe', r, f, h, ht, hp, e => by
    obtain ⟨fr, frs, d, ds, rfl, rfl, h⟩ := h.cons
    rw [List.pairwise_cons] at hp
    have step : ∀ (x : Sl) (s0 : Sl) (fr0 : List Nat), b.pe[i]? = some s0 → (∀ v, s0 ≠ .pa v) → ((∃ v, x = .sh v ∧ Un b.Z b.st d v ∧ fr0 = []) ∨ (∃ v, x = .ow v ∧ Con b.Z b.st fr0 d v)) → (∀ n ∈ fr0, n ∈ fr) → asgs is os (b.pe.set i x) = some pe' → ∃ c, c.env = ((i :: is).zip (d :: ds)).foldl (fun e p => e.set p.1 (some p.2)) b.env ∧ c.st = b.st ∧ c.pe = pe' ∧ RE c ∧ Fr a c ∧ (d :: ds).length = (i :: is).length := fun x s0 fr0 h0 hne hx hfr e => by
      obtain ⟨h1, h2⟩ := re_asg (x := x) (d := d) (fr := fr0) r h0 hne hx fun n hn => ⟨(ht fr (by simp) n (hfr n hn)).1.nz, (ht fr (by simp) n (hfr n hn)).1.nf⟩
      have rel2 : ∀ {frs : List (List Nat)} {ds : List D} {os : List Opd}, (∀ j, (∃ o ∈ os, o = .k j) → False) → RelAs b frs ds os → RelAs (setC b i d x fr0) frs ds os := fun {frs ds os} hk hh => by
        induction os generalizing frs ds with
        | nil =>
          obtain ⟨rfl, rfl⟩ := hh.nil
          trivial
        | cons o os ih =>
          obtain ⟨fr', frs', d', ds', rfl, rfl, hh⟩ := hh.cons
          refine ⟨?_, ih (fun j ⟨o', ho, he⟩ => hk j ⟨o', by simp [ho], he⟩) hh.2⟩
          cases o with
          | s v => exact hh.1
          | o v => exact hh.1
          | k j => exact (hk j ⟨_, by simp, rfl⟩).elim
      have nok : ∀ {is : List Nat} {os : List Opd} {pe : PEnv}, asgs is os pe = some pe' → ∀ j, (∃ o ∈ os, o = .k j) → False := fun {is os} => by
        induction os generalizing is with
        | nil => intro pe _ j ⟨o, ho, _⟩; simp at ho
        | cons o os ih =>
          intro pe e j hj
          cases is with
          | nil => cases o <;> cases e
          | cons i is =>
            obtain ⟨o', ho, he⟩ := hj
            cases o with
            | k m => cases e
            | s v =>
              unfold asgs at e
              split at e
              · cases e
              · rcases List.mem_cons.mp ho with rfl | ho
                · cases he
                · exact ih e j ⟨o', ho, he⟩
              · cases e
            | o v =>
              unfold asgs at e
              split at e
              · cases e
              · rcases List.mem_cons.mp ho with rfl | ho
                · cases he
                · exact ih e j ⟨o', ho, he⟩
              · cases e
      obtain ⟨c, k1, k2, k3, k4, k5, k6⟩ := asgs_ok (b := setC b i d x fr0) h1 (h2 a f fun n hn => (ht fr (by simp) n (hfr n hn)).1.new) (rel2 (nok e) h.2) (fun fr2 hf n hn => by
        obtain ⟨tm, tl⟩ := ht fr2 (by simp [hf]) n hn
        refine ⟨⟨tm.nz, fun j z => ?_, tm.new⟩, tl⟩
        have z : n ∈ (if j = i then fr0 else b.fp j) := z
        split at z
        · exact hp.1 fr2 hf n (hfr n z) hn
        · exact tm.nf j z) hp.2 e
      exact ⟨c, k1, k2, k3, k4, k5, by simp [k6]⟩
    cases o with
    | s v =>
      unfold asgs at e
      split at e
      · cases e
      · rename_i s0 hne h0
        exact step (.sh v) s0 [] h0 (fun v z => hne v z) (.inl ⟨v, rfl, h.1, rfl⟩) (by simp) e
      · cases e
    | o v =>
      unfold asgs at e
      split at e
      · cases e
      · rename_i s0 hne h0
        exact step (.ow v) s0 fr h0 (fun v z => hne v z) (.inr ⟨v, rfl, h.1⟩) (fun _ z => z) e
      · cases e
    | k j => cases e
def qPar (is : List Nat) (p : PM (List Opd)) : PS := qe p fun os pe Q => match calm5 os pe with
  | some (os', pe1) => match asgs is os' pe1 with
    | some pe' => Q .nx pe'
    | none => False
  | none => False
theorem par_ok {a b : Cf} {is : List Nat} {ds : List D} {os os' : List Opd} {pe1 pe' : PEnv} (rb : RE b) (f : Fr a b) (hr : RelA a b ds os) (e1 : calm5 os b.pe = some (os', pe1)) (e2 : asgs is os' pe1 = some pe') : ∃ c, c.env = (is.zip ds).foldl (fun e p => e.set p.1 (some p.2)) b.env ∧ c.st = b.st ∧ c.pe = pe' ∧ RE c ∧ Fr a c ∧ ds.length = is.length := by
  obtain ⟨frs, g1, g2, g3⟩ := hr.ex
  obtain ⟨c, rfl, l, h2⟩ := calm5_ok rb f g1 e1
  obtain ⟨c2, k1, k2, k3, k4, k5, k6⟩ := asgs_ok l.re l.fr_ h2 (fun fr hf n hn => by
    obtain ⟨t, tl⟩ := g2 fr hf n hn
    refine ⟨⟨fun z => ?_, fun i z => t.nf i (l.fp i n z), t.new⟩, by rw [l.st]; exact tl⟩
    rcases l.zn n z with y | y | ⟨i, y⟩
    · exact t.nz y
    · simp at y
    · exact t.nf i y) g3 e2
  exact ⟨c2, by rw [k1, l.env], k2.trans l.st, k3, k4, k5, k6⟩
theorem s_par {is : List Nat} {fr : F3 (List D)} {p : PM (List Opd)} (h : SA fr p) : SdS (fPar is fr) (qPar is p) :=
  s_eff h fun a b ds os ra rb f e hr Q hq => by
    split at hq
    · rename_i os' pe1 e1
      split at hq
      · rename_i pe' e2
        obtain ⟨c, k1, k2, rfl, k4, k5, k6⟩ := par_ok rb f hr e1 e2
        exact .mk (b := c) (x := .nx) (by rw [if_pos k6, k1, k2]) k4 k5 hq trivial
      · exact hq.elim
    · exact hq.elim
def gNames : List Nat → Gn3
  | [] => gNil3
  | i :: is => gCons3 (gVar i) (gNames is)
theorem gNames_ok : ∀ (is : List Nat) (ds : List D) (env : Env3) (st : Sto), ds.length = is.length → gNames is ds env st = some ((is.zip ds).foldl (fun e p => e.set p.1 (some p.2)) env, st)
  | [], [], env, st, _ => rfl
  | i :: is, d :: ds, env, st, h => by
    show (match gVar i d env st with | some (env1, st1) => gNames is ds env1 st1 | none => none) = _
    exact gNames_ok is ds (env.set i (some d)) st (by simpa using h)
  | [], _ :: _, _, _, h => by simp at h
  | _ :: _, [], _, _, h => by simp at h
/-- a written tuple into names -/
theorem s_parT {is : List Nat} {fr : F3 (List D)} {p : PM (List Opd)} (h : SA fr p) (hl : is.length ≤ sizeLine) : SdS (fAsg (fArgs oTup fr) (gTup3 is.length (gNames is))) (qPar is p) := by
  intro a ra Q hq
  obtain ⟨r, r3, b, h1, h2, h3, h4, h5, h6⟩ := h a ra _ hq
  cases r with
  | ok os =>
    cases r3 with
    | ok ds =>
      dsimp only at h5
      split at h5
      · rename_i os' pe1 e1
        split at h5
        · rename_i pe' e2
          obtain ⟨c, k1, k2, rfl, k4, k5, k6⟩ := par_ok h3 h4 h6 e1 e2
          refine .mk (b := c) (x := .nx) ?_ k4 k5 h5 trivial
          have e3 : fArgs oTup fr a.env a.st = some (.ok (.tup ds), b.st) := by
            show S3.bnd fr (lift oTup) a.env a.st = _
            rw [bnd_ok h1]
            unfold lift oTup
            rw [if_pos (by rw [k6]; exact hl)]
          show eff (fArgs oTup fr) _ a.env a.st = _
          rw [eff_ok e3]
          have e4 : gTup3 is.length (gNames is) (.tup ds) a.env b.st = some ((is.zip ds).foldl (fun e p => e.set p.1 (some p.2)) a.env, b.st) := by
            show (if ds.length = is.length then gNames is ds a.env b.st else none) = _
            rw [if_pos k6, gNames_ok _ _ _ _ k6]
          rw [e4, k1, k2, h2]
        · exact h5.elim
      · exact h5.elim
    | er j => exact h6.elim
  | er i =>
    cases r3 with
    | ok x => exact h6.elim
    | er j =>
      refine ⟨.er i, .er j, b, ?_, h3, h4, h5, h6⟩
      have e3 : fArgs oTup fr a.env a.st = some (.er j, b.st) := by
        show S3.bnd fr (lift oTup) a.env a.st = _
        rw [bnd_er h1]
      show eff (fArgs oTup fr) _ a.env a.st = _
      rw [eff_er e3, h2]
end S3

set_option maxHeartbeats 4000000
/-! S5H: loops, stores, defs, calls. -/
namespace S3
open PySem PyProof.Rows L2

def loopP (t : T5) (body : PS) : List P → PS
  | [] => fun pe Q => Q .nx pe
  | x :: xs => fun pe Q => match t x pe with
    | some pe1 => body pe1 fun r pe2 => match r with
      | .nx => loopP t body xs pe2 Q
      | .ct => loopP t body xs pe2 Q
      | .bk => Q .nx pe2
      | r => Q r pe2
    | none => False
theorem loopF_q {a : Cf} {src : Src} {gt : G3} {t : T5} {fb : FS} {body : PS} {W : List Nat} (hg : SG gt t W) (hb : SdS fb body) {Q : Flp → PEnv → Prop} (ra : RE a) : ∀ (items : List P) (n i : Nat) (c : Cf), RE c → Fr a c → (∀ c', Fr a c' → ∀ j, match (generalizing := false) items[j]? with
  | some v => ∃ d, src c'.st (i + j) = some (some d) ∧ Un c'.Z c'.st d v
  | none => src c'.st (i + j) = some none) → items.length < n → loopP t body items c.pe Q → GotS a (loopF src gt fb n i c.env c.st) Q
  | items, 0, i, c, r, f, hs, hn, hq => by omega
  | [], n + 1, i, c, r, f, hs, hn, hq => by
    have h0 := hs c f 0
    exact .mk (b := c) (x := .nx) (by unfold loopF; rw [show src c.st i = some none from h0]) r f hq trivial
  | x :: xs, n + 1, i, c, r, f, hs, hn, hq => by
    unfold loopP at hq
    obtain ⟨d, h0, un⟩ := hs c f 0
    have h0 : src c.st i = some (some d) := h0
    split at hq
    · rename_i pe1 e1
      obtain ⟨b, k1, rfl, k3, k4, k5, k6, k7⟩ := hg c d x _ r un e1
      have fcb : Fr a b := k6 a f
      obtain ⟨y, y3, b1, l1, l2, l3, l4, l5⟩ := hb b k5 _ hq
      rw [k4] at l1
      have e : loopF src gt fb (n + 1) i c.env c.st = match some (y3, b1.env, b1.st) with
        | some (.nx, env2, st2) => loopF src gt fb n (i + 1) env2 st2
        | some (.ct, env2, st2) => loopF src gt fb n (i + 1) env2 st2
        | some (.bk, env2, st2) => some (.nx, env2, st2)
        | some (.rt d, env2, st2) => some (.rt d, env2, st2)
        | some (.er c, env2, st2) => some (.er c, env2, st2)
        | none => none := by
        conv => lhs; unfold loopF
        rw [h0]
        dsimp only
        rw [k1]
        dsimp only
        rw [l1]
        try rfl
      rw [e]
      have l5' := l5.back ra fcb k5
      cases y with
      | nx =>
        cases y3 <;> try exact l5.elim
        exact loopF_q hg hb ra xs n (i + 1) b1 l2 (fcb.trans l3) (src_next hs) (by simpa using hn) l4
      | ct =>
        cases y3 <;> try exact l5.elim
        exact loopF_q hg hb ra xs n (i + 1) b1 l2 (fcb.trans l3) (src_next hs) (by simpa using hn) l4
      | bk =>
        cases y3 <;> try exact l5.elim
        exact .mk (b := b1) (x := .nx) rfl l2 (fcb.trans l3) l4 trivial
      | rt o v =>
        cases y3 <;> try (cases o <;> exact l5.elim)
        exact ⟨_, _, b1, rfl, l2, fcb.trans l3, l4, l5'⟩
      | er j =>
        cases y3 <;> try exact l5.elim
        exact ⟨_, _, b1, rfl, l2, fcb.trans l3, l4, l5'⟩
    · exact hq.elim
def qFor (n : Nat) (ps : PM (List P)) (t : T5) (body : PS) : PS := qe ps fun items pe Q => items.length < n ∧ loopP t body items pe Q
theorem s_for {n : Nat} {fi : F3 Src} {gt : G3} {fb : FS} {W : List Nat} {ps : PM (List P)} {t : T5} {body : PS} (hi : SS fi ps) (hg : SG gt t W) (hb : SdS fb body) : SdS (fFor n fi gt fb) (qFor n ps t body) :=
  s_eff hi fun a b src items ra rb f e hr Q hq => (loopF_q (a := b) hg hb rb items n 0 b rb (Fr.refl b) (fun c' fc j => by
    have := hr c' fc j
    rw [Nat.zero_add]
    exact this) hq.1 hq.2).back ra f rb
def qWhile (t : PM Bool) (body : PS) : Nat → PS
  | 0 => fun _ _ => False
  | n + 1 => fun pe Q => t pe fun r pe1 => match r with
    | .ok true => body pe1 fun r pe2 => match r with
      | .nx => qWhile t body n pe2 Q
      | .ct => qWhile t body n pe2 Q
      | .bk => Q .nx pe2
      | r => Q r pe2
    | .ok false => Q .nx pe1
    | .er c => Q (.er c) pe1
theorem s_while {ft : F3 Bool} {fb : FS} {t : PM Bool} {body : PS} (ht : ST ft t) (hb : SdS fb body) : ∀ n, SdS (fWhile ft fb n) (qWhile t body n)
  | 0 => fun a ra Q hq => hq.elim
  | n + 1 => fun a ra Q hq => by
    obtain ⟨y, y3, b, l1, l2, l3, l4, l5, l6⟩ := ht a ra _ hq
    cases y with
    | er j =>
      cases y3 with
      | ok z => exact l6.elim
      | er k => exact ⟨.er j, .er k, b, by unfold fWhile; rw [l1, l2], l3, l4, l5, l6⟩
    | ok y =>
      cases y3 with
      | er k => exact l6.elim
      | ok y3 =>
        have l6 : y3 = y := l6
        subst l6
        cases y3 with
        | false => exact ⟨.nx, .nx, b, by unfold fWhile; rw [l1, l2], l3, l4, l5, trivial⟩
        | true =>
          obtain ⟨z, z3, b1, m1, m2, m3, m4, m5⟩ := hb b l3 _ l5
          have e : fWhile ft fb (n + 1) a.env a.st = match some (z3, b1.env, b1.st) with
            | some (.nx, env2, st2) => fWhile ft fb n env2 st2
            | some (.ct, env2, st2) => fWhile ft fb n env2 st2
            | some (.bk, env2, st2) => some (.nx, env2, st2)
            | some (.rt d, env2, st2) => some (.rt d, env2, st2)
            | some (.er c, env2, st2) => some (.er c, env2, st2)
            | none => none := by
            conv => lhs; unfold fWhile
            rw [l1]
            dsimp only
            rw [← l2, m1]
            try rfl
          rw [e]
          have m5' := m5.back ra l4 l3
          cases z with
          | nx =>
            cases z3 <;> try exact m5.elim
            exact (s_while ht hb n b1 m2 Q m4).back ra (l4.trans m3) m2
          | ct =>
            cases z3 <;> try exact m5.elim
            exact (s_while ht hb n b1 m2 Q m4).back ra (l4.trans m3) m2
          | bk =>
            cases z3 <;> try exact m5.elim
            exact .mk (b := b1) (x := .nx) rfl m2 (l4.trans m3) m4 trivial
          | rt o v =>
            cases z3 <;> try (cases o <;> exact m5.elim)
            exact ⟨_, _, b1, rfl, m2, l4.trans m3, m4, m5'⟩
          | er j =>
            cases z3 <;> try exact m5.elim
            exact ⟨_, _, b1, rfl, m2, l4.trans m3, m4, m5'⟩
/-! ### stores -/
def qAug (o : Int → Int → Int) (i : Nat) (p : PM Opd) : PS := fun pe Q => match pe[i]? with
  | some (.sh (.int k)) => qe p (fun x pe1 Q => match opv pe1 x with
    | some (.int j) => (match tV i (.int (o k j)) pe1 with
      | some pe2 => Q .nx pe2
      | none => False)
    | _ => False) pe Q
  | _ => False
theorem s_aug {o : Int → Int → Int} {i : Nat} {fa : F3 D} {p : PM Opd} (h : SE fa p) : SdS (fAug o i fa) (qAug o i p) := by
  intro a ra Q hq
  unfold qAug at hq
  split at hq
  · rename_i k hk
    obtain ⟨d, h1, h2⟩ := ra.sh i _ hk
    cases h2
    have : GotS a (eff fa (fun d env st => match d with
      | .int j => some (.nx, env.set i (some (.int (o k j))), st)
      | _ => none) a.env a.st) Q := by
      refine s_eff h (fun a b d x ra rb f e hr Q hq => ?_) a ra Q hq
      split at hq
      · rename_i j hj
        obtain rfl := (hr.vw rb hj).int
        split at hq
        · rename_i pe2 e2
          obtain ⟨c, k1, rfl, k3, k4, k5, k6, k7⟩ := s_gVar i b (.int (o k j)) (.int (o k j)) _ rb (.int _) e2
          unfold gVar at k1
          simp only [Option.some.injEq, Prod.mk.injEq, and_true] at k1
          exact .mk (b := c) (x := .nx) (by dsimp only; rw [k1, k4]) k5 (k6 a f) hq trivial
        · exact hq.elim
      · exact hq.elim
    unfold fAug
    rw [h1]
    exact this
  · exact hq.elim
def pset (w iv v : P) : Option P := match w with
  | .lst us => match iv with
    | .int k => match ixN us.length k with
      | some j => some (.lst (us.set j v))
      | none => none
    | _ => none
  | .dK us => match pkeyK iv with
    | some key => if us.length < sizeLine then some (.dK (putG us key v)) else none
    | none => none
  | .dT us => match pkeyT iv with
    | some key => if us.length < sizeLine then some (.dT (putG us key v)) else none
    | none => none
  | _ => none
theorem pset_ok {c : Cf} {i : Nat} {w w' iv v : P} {dx di dv : D} (r : RE c) (ho : ownv c.pe i = some w) (he : c.env[i]? = some (some dx)) (hi : Vw c di iv) (hv : Un c.Z c.st dv v) (e : pset w iv v = some w') : ∃ st', oSet c.st dx di dv = some st' ∧ RE ⟨c.Z, c.fp, c.env, st', mutS c.pe i w'⟩ ∧ ∀ a, Fr a c → Fr a ⟨c.Z, c.fp, c.env, st', mutS c.pe i w'⟩ := by
  obtain ⟨d', g1, g2⟩ := ownv_con r ho
  rw [he] at g1
  cases g1
  generalize hfp : c.fp i = fpi at g2
  unfold pset at e
  split at e
  · split at e
    · rename_i k
      split at e
      · rename_i j hj
        cases e
        obtain rfl := hi.int
        cases g2 with
        | @lst n ds _ e1 a1 =>
          have hz : ¬ c.Z n := r.nz i n (by rw [hfp]; simp)
          have nl : n < c.st.length := (List.getElem?_eq_some_iff.mp e1).1
          obtain ⟨h1, h2⟩ := re_mut (y := .lst (ds.set j dv)) r ho he hfp (.lst (List.getElem?_set_self nl) (un_setT hz (a1.set hv j)))
          refine ⟨_, ?_, h1, h2⟩
          unfold oSet
          dsimp only
          rw [e1]
          dsimp only
          rw [a1.length, hj]
      · cases e
    · cases e
  · split at e
    · rename_i key hk
      split at e
      · rename_i hl
        cases e
        cases g2 with
        | @dK n ds _ e1 ek a1 =>
          have hz : ¬ c.Z n := r.nz i n (by rw [hfp]; simp)
          have nl : n < c.st.length := (List.getElem?_eq_some_iff.mp e1).1
          obtain ⟨p1, p2⟩ := kv_put (k := key) hv ek a1
          obtain ⟨h1, h2⟩ := re_mut (y := .dK (putG ds key dv)) r ho he hfp (.dK (List.getElem?_set_self nl) p1 (un_setT hz p2))
          refine ⟨_, ?_, h1, h2⟩
          unfold oSet
          dsimp only
          rw [e1]
          dsimp only
          rw [hi.keyK hk]
          dsimp only
          rw [if_pos (by
            have := congrArg List.length ek
            simp at this
            omega)]
      · cases e
    · cases e
  · split at e
    · rename_i key hk
      split at e
      · rename_i hl
        cases e
        cases g2 with
        | @dT n ds _ e1 ek a1 =>
          have hz : ¬ c.Z n := r.nz i n (by rw [hfp]; simp)
          have nl : n < c.st.length := (List.getElem?_eq_some_iff.mp e1).1
          obtain ⟨p1, p2⟩ := kv_put (k := key) hv ek a1
          obtain ⟨h1, h2⟩ := re_mut (y := .dT (putG ds key dv)) r ho he hfp (.dT (List.getElem?_set_self nl) p1 (un_setT hz p2))
          refine ⟨_, ?_, h1, h2⟩
          unfold oSet
          dsimp only
          rw [e1]
          dsimp only
          rw [hi.keyT hk]
          dsimp only
          rw [if_pos (by
            have := congrArg List.length ek
            simp at this
            omega)]
      · cases e
    · cases e
  · cases e
def qSubEnd (ov oo oi : Opd) (pe : PEnv) (Q : Flp → PEnv → Prop) : Prop := match oo with
  | .k i => match lk1 ov pe with
    | some (v, pe1) => match opv pe1 oi, ownv pe1 i with
      | some iv, some w => match pset w iv v with
        | some w' => Q .nx (mutS pe1 i w')
        | none => False
      | _, _ => False
    | none => False
  | _ => False
def qStore (pv po pi : PM Opd) : PS := qe pv fun ov pe Q => po pe fun r pe2 => match r with
  | .ok oo => pi pe2 fun r pe3 => match r with
    | .ok oi => qSubEnd ov oo oi pe3 Q
    | .er _ => False
  | .er _ => False
theorem s_sub {fv fo fi : F3 D} {pv po pi : PM Opd} (h1 : SE fv pv) (h2 : SE fo po) (h3 : SE fi pi) : SdS (fAsg fv (gSub3 fo fi)) (qStore pv po pi) :=
  s_eff h1 fun a b dv ov ra rb f e hr Q hq => by
    obtain ⟨x, x3, c, k1, k2, k3, k4, k5, k6⟩ := h2 b rb _ hq
    cases x with
    | er _ => exact k5.elim
    | ok oo =>
      cases x3 with
      | er _ => exact k6.elim
      | ok dx =>
        obtain ⟨y, y3, c2, l1, l2, l3, l4, l5, l6⟩ := h3 c k3 _ k5
        cases y with
        | er _ => exact l5.elim
        | ok oi =>
          cases y3 with
          | er _ => exact l6.elim
          | ok di =>
            have hr3 := (hr.on rb k4 k2).on k3 l4 l2
            have hq : qSubEnd ov oo oi c2.pe Q := l5
            unfold qSubEnd at hq
            split at hq
            · rename_i i
              split at hq
              · rename_i v pe1 e1
                obtain ⟨fr, tt, hr3⟩ := hr3
                obtain ⟨c3, rfl, g2, g3⟩ := leak1 l3 ((f.trans k4).trans l4) hr3 tt e1
                split at hq
                · rename_i iv w hiv hw
                  split at hq
                  · rename_i w' hw'
                    obtain ⟨_, _, hdx⟩ := k6
                    have hdx : c.env[i]? = some (some dx) := hdx
                    obtain ⟨fr2, t2, l6⟩ := l6
                    have vi : Vw c3 di iv := (g3.relO l6).vw g3.re hiv
                    obtain ⟨st', m1, m2, m3⟩ := pset_ok (dx := dx) g3.re hw (by rw [g3.env, l2]; exact hdx) vi g2 hw'
                    refine .mk (b := ⟨c3.Z, c3.fp, c3.env, st', mutS c3.pe i w'⟩) (x := .nx) ?_ m2 (m3 a g3.fr_) hq trivial
                    have e5 : gSub3 fo fi dv b.env b.st = some (b.env, st') := by
                      unfold gSub3
                      rw [k1]
                      dsimp only
                      rw [← k2, l1]
                      dsimp only
                      rw [← g3.st, m1]
                    rw [e5]
                    show some (Fl.nx, b.env, st') = some (Fl.nx, c3.env, st')
                    rw [g3.env, l2, k2]
                  · exact hq.elim
                · exact hq.elim
              · exact hq.elim
            · exact hq.elim
/-- xs[i] op= e -/
def qAugS (o : Int → Int → Int) (po pi p : PM Opd) : PS := qe po fun oo => qe pi fun oi pe Q => match oo, oi with
  | .k i, .s (.int x) => match ownv pe i with
    | some (.lst us) => 0 ≤ x ∧ x < 2 ^ 63 ∧ (match us[x.toNat]? with
      | some (.int k) => qe p (fun ov pe1 Q => match opv pe1 ov, ownv pe1 i with
        | some (.int j), some w => (match pset w (.int x) (.int (o k j)) with
          | some w' => Q .nx (mutS pe1 i w')
          | none => False)
        | _, _ => False) pe Q
      | _ => False)
    | _ => False
  | _, _ => False
theorem s_augS {o : Int → Int → Int} {fo fi fa : F3 D} {po pi p : PM Opd} (h1 : SE fo po) (h2 : SE fi pi) (h3 : SE fa p) : SdS (fAugS o fo fi fa) (qAugS o po pi p) :=
  s_eff h1 fun a b dx oo ra rb f e hr Q hq => by
    obtain ⟨y, y3, c, l1, l2, l3, l4, l5, l6⟩ := h2 b rb _ hq
    cases y with
    | er i =>
      cases y3 with
      | ok _ => exact l6.elim
      | er j => exact ⟨.er i, .er j, c, by rw [eff_er l1, l2], l3, f.trans l4, l5, l6⟩
    | ok oi =>
      cases y3 with
      | er _ => exact l6.elim
      | ok di =>
        rw [eff_ok l1]
        dsimp only at l5
        split at l5
        · rename_i i x
          obtain ⟨_, _, hdi⟩ := l6
          have hdi : Un c.Z c.st di (.int x) := hdi
          cases hdi
          obtain ⟨_, _, hdx⟩ := hr
          have hdx : b.env[i]? = some (some dx) := hdx
          split at l5
          · rename_i us hus
            obtain ⟨x0, x1, l5⟩ := l5
            split at l5
            · rename_i k hk
              have hsq : ∃ ds, seqL c.st dx = some ds ∧ UnA c.Z c.st ds us := by
                obtain ⟨d', g1, g2⟩ := ownv_con l3 hus
                rw [l2, hdx] at g1
                cases g1
                generalize c.fp i = fpi at g2
                cases g2 with
                | lst e1 a1 => exact ⟨_, by simp [seqL, e1], a1⟩
              obtain ⟨ds, hs1, hs2⟩ := hsq
              obtain ⟨dk, hk1, hk2⟩ := hs2.get hk
              cases hk2
              obtain ⟨z, z3, c2, m1, m2, m3, m4, m5, m6⟩ := h3 c l3 _ l5
              dsimp only
              rw [if_pos ⟨x0, x1⟩, hs1]
              dsimp only
              rw [hk1]
              dsimp only
              cases z with
              | er i =>
                cases z3 with
                | ok _ => exact m6.elim
                | er j =>
                  refine ⟨.er i, .er j, c2, ?_, m3, (f.trans l4).trans m4, m5, m6⟩
                  rw [← l2, eff_er m1, m2]
              | ok ov =>
                cases z3 with
                | er _ => exact m6.elim
                | ok dv =>
                  dsimp only at m5
                  split at m5
                  · rename_i j w hj hw
                    split at m5
                    · rename_i w' hw'
                      obtain rfl := (RelE.vw m6 m3 hj).int
                      obtain ⟨st', n1, n2, n3⟩ := pset_ok (dx := dx) (di := .int x) (dv := .int (o k j)) m3 hw (by rw [m2, l2]; exact hdx) (.inl (.int x)) (.int _) hw'
                      refine .mk (b := ⟨c2.Z, c2.fp, c2.env, st', mutS c2.pe i w'⟩) (x := .nx) ?_ n2 (n3 a ((f.trans l4).trans m4)) m5 trivial
                      rw [← l2, eff_ok m1]
                      dsimp only
                      rw [n1]
                      dsimp only
                      rw [m2]
                    · exact m5.elim
                  · exact m5.elim
            · exact l5.elim
          · exact l5.elim
        · exact l5.elim
end S3

set_option maxHeartbeats 4000000
/-! S5I: defs and calls over values. -/
namespace S3
open PySem PyProof.Rows L2

abbrev PD := List Sl → (R3 (Bool × P) → List Sl → Prop) → Prop
def mrg : List Sl → List Sl → List Sl
  | .pa v :: ps, x :: pe => x :: mrg ps pe
  | s :: ps, _ :: pe => s :: mrg ps pe
  | ps, [] => ps
  | [], _ => []
def pdOf (n : Nat) (body : PS) : PD := fun ps Q => body (ps ++ List.replicate (n - ps.length) .no) fun r pe => match r with
  | .nx => Q (.ok (false, .non)) (mrg ps pe)
  | .rt b v => Q (.ok (b, v)) (mrg ps pe)
  | .er c => Q (.er c) (mrg ps pe)
  | _ => False
def RelD (a b : Cf) (d : D) : Bool × P → Prop
  | (false, v) => Un b.Z b.st d v
  | (true, v) => ∃ fr : List Nat, (∀ n ∈ fr, Tmp a b n ∧ n < b.st.length) ∧ Con b.Z b.st fr d v
def GotD (a : Cf) (g : Option (R3 D × Sto)) (Q : R3 (Bool × P) → List Sl → Prop) : Prop := ∃ r r3 b, g = some (r3, b.st) ∧ b.env = a.env ∧ RE b ∧ Fr a b ∧ Q r b.pe ∧ Rr (fun a b d v => RelD a b d v) a b r r3
def Clean (pe : PEnv) : Prop := ∀ s ∈ pe, (∃ v, s = .sh v ∨ s = .pa v) ∨ ∃ cs vs, s = .cap cs vs
def SdD (fd : FD) (pd : PD) : Prop := ∀ a ds, RE a → a.env = ds.map some → Clean a.pe → ∀ Q, pd a.pe Q → GotD a (fd ds a.st) Q
theorem mrg_get : ∀ (ps pe : List Sl) (i : Nat), ps.length ≤ pe.length → (mrg ps pe)[i]? = match ps[i]? with
    | some (.pa _) => pe[i]?
    | o => o
  | [], pe, i, _ => by
    cases pe <;> simp [mrg]
  | s :: ps, [], i, h => by simp at h
  | s :: ps, x :: pe, 0, h => by
    cases s <;> rfl
  | s :: ps, x :: pe, i + 1, h => by
    have ih := mrg_get ps pe i (by simpa using h)
    cases s <;> exact ih
theorem mrg_len : ∀ (ps pe : List Sl), ps.length ≤ pe.length → (mrg ps pe).length = ps.length
  | [], pe, _ => by cases pe <;> rfl
  | s :: ps, [], h => by simp at h
  | s :: ps, x :: pe, h => by
    have ih := mrg_len ps pe (by simpa using h)
    cases s <;> simpa [mrg] using ih
theorem clean_fp {a : Cf} (ra : RE a) (cl : Clean a.pe) {i n : Nat} (h : n ∈ a.fp i) : ∃ v, a.pe[i]? = some (Sl.pa v) := by
  obtain ⟨v, hv | hv⟩ := ra.fz i n h
  · rcases cl _ (List.mem_of_getElem? hv) with ⟨u, hu | hu⟩ | ⟨cs, vs, hu⟩ <;> cases hu
  · exact ⟨v, hv⟩
theorem s_def {n : Nat} {fs : FS} {body : PS} (h : SdS fs body) : SdD (fdOf n fs) (pdOf n body) := by
  intro a ds ra ea cl Q hq
  have la : a.pe.length = ds.length := by rw [← ra.len, ea, List.length_map]
  let a' : Cf := ⟨a.Z, a.fp, ds.map some ++ List.replicate (n - ds.length) none, a.st, a.pe ++ List.replicate (n - a.pe.length) .no⟩
  have gp : ∀ i, i < a.pe.length → a'.pe[i]? = a.pe[i]? := fun i hi => List.getElem?_append_left hi
  have ge : ∀ i, i < a.pe.length → a'.env[i]? = a.env[i]? := fun i hi => by
    rw [ea]
    exact List.getElem?_append_left (by simpa [← la] using hi)
  have gno : ∀ (i : Nat) (s : Sl), a'.pe[i]? = some s → s ≠ .no → i < a.pe.length := fun i s e hs => by
    by_cases hi : i < a.pe.length
    · exact hi
    · have e : (a.pe ++ List.replicate (n - a.pe.length) Sl.no)[i]? = some s := e
      rw [List.getElem?_append_right (by omega)] at e
      have := List.mem_of_getElem? e
      simp at this
      exact absurd this.2 hs
  have fpl : ∀ i m, m ∈ a.fp i → i < a.pe.length := fun i m z => by
    obtain ⟨v, hv⟩ := clean_fp ra cl z
    exact (List.getElem?_eq_some_iff.mp hv).1
  have ra' : RE a' := ⟨by simp [a', la], fun i v e => by
      have hi := gno i _ e (by intro z; cases z)
      rw [gp i hi] at e
      obtain ⟨d, h1, h2⟩ := ra.sh i v e
      exact ⟨d, (ge i hi).trans h1, h2⟩, fun i v e => by
      have hi := gno i _ e (by intro z; cases z)
      rw [gp i hi] at e
      obtain ⟨d, h1, h2⟩ := ra.ow i v e
      exact ⟨d, (ge i hi).trans h1, h2⟩, fun i v e => by
      have hi := gno i _ e (by intro z; cases z)
      rw [gp i hi] at e
      obtain ⟨d, h1, h2⟩ := ra.pa i v e
      exact ⟨d, (ge i hi).trans h1, h2⟩, fun i m z => by
      obtain ⟨w, hw⟩ := ra.fz i m z
      exact ⟨w, by rw [gp i (fpl i m z)]; exact hw⟩, ra.nz, ra.dj, ra.zb, fun i cs vs e => by
      have hi := gno i _ e (by intro z; cases z)
      rw [gp i hi] at e
      exact ra.cap i cs vs e⟩
  obtain ⟨r, x, b', k1, k2, k3, k4, k5⟩ := h a' ra' _ hq
  have k1 : fs (ds.map some ++ List.replicate (n - ds.length) none) a.st = some (x, b'.env, b'.st) := k1
  have hle : a.pe.length ≤ b'.pe.length := by rw [k3.pel]; simp [a']
  have paOf : ∀ (i : Nat) (v : P), a.pe[i]? = some (Sl.pa v) → (∃ v', b'.pe[i]? = some (Sl.pa v')) ∧ b'.fp i = a.fp i ∧ b'.env[i]? = a.env[i]? := fun i v e => by
    have hi := (List.getElem?_eq_some_iff.mp e).1
    obtain ⟨h1, h2, h3⟩ := k3.pa i v ((gp i hi).trans e)
    exact ⟨h1, h2, h3.trans (ge i hi)⟩
  have mg : ∀ i : Nat, (mrg a.pe b'.pe)[i]? = match a.pe[i]? with
    | some (Sl.pa _) => b'.pe[i]?
    | o => o := fun i => mrg_get _ _ i hle
  have mpa : ∀ (i : Nat) (v : P), a.pe[i]? = some (Sl.pa v) → (mrg a.pe b'.pe)[i]? = b'.pe[i]? := fun i v e => by rw [mg i, e]
  let b : Cf := ⟨b'.Z, a.fp, a.env, b'.st, mrg a.pe b'.pe⟩
  have rb : RE b := by
    refine ⟨by show a.env.length = (mrg a.pe b'.pe).length; rw [mrg_len _ _ hle, ra.len], fun i v e => ?_, fun i v e => ?_, fun i v e => ?_, fun i m z => ?_, fun i m z => ?_, ra.dj, k2.zb, fun i cs vs e => ?_⟩
    · have e : (mrg a.pe b'.pe)[i]? = some (Sl.sh v) := e
      rw [mg i] at e
      split at e
      · rename_i u hu
        obtain ⟨⟨v', x1⟩, _⟩ := paOf i u hu
        rw [x1] at e
        cases e
      · obtain ⟨d, h1, h2⟩ := ra.sh i v e
        exact ⟨d, h1, k3.un ra' h2⟩
    · have e : (mrg a.pe b'.pe)[i]? = some (Sl.ow v) := e
      rw [mg i] at e
      split at e
      · rename_i u hu
        obtain ⟨⟨v', x1⟩, _⟩ := paOf i u hu
        rw [x1] at e
        cases e
      · rcases cl _ (List.mem_of_getElem? e) with ⟨u, hu | hu⟩ | ⟨cs, vs, hu⟩ <;> cases hu
    · have e : (mrg a.pe b'.pe)[i]? = some (Sl.pa v) := e
      rw [mg i] at e
      split at e
      · rename_i u hu
        obtain ⟨x1, x2, x3⟩ := paOf i u hu
        obtain ⟨d, h1, h2⟩ := k2.pa i v e
        exact ⟨d, by rw [← x3]; exact h1, by rw [← x2]; exact h2⟩
      · rename_i hne
        exact absurd e (hne v)
    · obtain ⟨v, hv⟩ := clean_fp ra cl z
      obtain ⟨⟨v', x1⟩, x2, x3⟩ := paOf i v hv
      exact ⟨v', .inr ((mpa i v hv).trans x1)⟩
    · obtain ⟨v, hv⟩ := clean_fp ra cl z
      obtain ⟨⟨v', x1⟩, x2, x3⟩ := paOf i v hv
      exact k2.nz i m (by rw [x2]; exact z)
    · have e : (mrg a.pe b'.pe)[i]? = some (Sl.cap cs vs) := e
      rw [mg i] at e
      split at e
      · rename_i u hu
        obtain ⟨⟨v', x1⟩, _⟩ := paOf i u hu
        rw [x1] at e
        cases e
      · exact k3.unA ra' (ra.cap i cs vs e)
  have fb : Fr a b := ⟨k3.z, k3.zn, fun i m z => .inl z, k3.keep, k3.len, fun i v e => by
    obtain ⟨⟨v', x1⟩, x2, x3⟩ := paOf i v e
    exact ⟨⟨v', (mpa i v e).trans x1⟩, rfl, rfl⟩, mrg_len _ _ hle⟩
  have tmpOf : ∀ m, TmR a' b' m → Tmp a b m := fun m t => ⟨t.nz, fun i z => by
    obtain ⟨v, hv⟩ := clean_fp ra cl z
    obtain ⟨_, x2, _⟩ := paOf i v hv
    exact t.nf i (by rw [x2]; exact z), by
    rcases t.new with z | ⟨i, v, z1, z2⟩
    · exact z
    · obtain ⟨u, hu⟩ := clean_fp ra cl z2
      rw [gp i (fpl i m z2), hu] at z1
      cases z1⟩
  cases r with
  | nx =>
    cases x <;> try exact k5.elim
    exact ⟨.ok (false, .non), .ok .non, b, by unfold fdOf; rw [k1], rfl, rb, fb, k4, Un.non⟩
  | rt o v =>
    cases x with
    | rt d =>
      cases o with
      | false => exact ⟨.ok (false, v), .ok d, b, by unfold fdOf; rw [k1], rfl, rb, fb, k4, k5⟩
      | true =>
        obtain ⟨fr, t, hc⟩ := k5
        exact ⟨.ok (true, v), .ok d, b, by unfold fdOf; rw [k1], rfl, rb, fb, k4, fr, fun m hm => ⟨tmpOf m (t m hm).1, (t m hm).2⟩, hc⟩
    | _ => cases o <;> exact k5.elim
  | bk => exact k4.elim
  | ct => exact k4.elim
  | er c =>
    cases x <;> try exact k5.elim
    exact ⟨.er c, .er _, b, by unfold fdOf; rw [k1], rfl, rb, fb, k4, k5⟩

/-! ### calls: nothing lent -/
def outD : R3 (Bool × P) → R3 Opd
  | .ok (true, v) => .ok (.o v)
  | .ok (false, v) => .ok (.s v)
  | .er c => .er c
theorem clean_sh (vs : List P) : Clean (vs.map Sl.sh) := fun s hs => by
  obtain ⟨v, _, rfl⟩ := List.mem_map.mp hs
  exact .inl ⟨v, .inl rfl⟩
theorem re_args {c : Cf} (r : RE c) {ds : List D} {vs : List P} (h : UnA c.Z c.st ds vs) : RE ⟨c.Z, fun _ => [], ds.map some, c.st, vs.map Sl.sh⟩ := by
  refine ⟨by simp [h.length], fun i v e => ?_, fun i v e => ?_, fun i v e => ?_, fun i n z => by simp at z, fun i n z => by simp at z, fun i j n z => by simp at z, r.zb, fun i cs us e => by
    have := List.mem_of_getElem? (show (vs.map Sl.sh)[i]? = some (Sl.cap cs us) from e)
    simp at this⟩
  · have e : (vs.map Sl.sh)[i]? = some (Sl.sh v) := e
    rw [List.getElem?_map] at e
    cases hv : vs[i]? with
    | none =>
      rw [hv] at e
      cases e
    | some u =>
      rw [hv] at e
      cases e
      obtain ⟨d, h1, h2⟩ := h.get hv
      exact ⟨d, by rw [List.getElem?_map, h1]; rfl, h2⟩
  · have := List.mem_of_getElem? e
    simp at this
  · have := List.mem_of_getElem? e
    simp at this
theorem rel_out {a c cc b : Cf} {c' : Cf} (hz : c'.Z = b.Z) (hs : c'.st = b.st) (hl : a.st.length ≤ cc.st.length) (ht : ∀ n, Tmp cc b n → Tmp a c' n) {r : R3 (Bool × P)} {r3 : R3 D} (h : Rr (fun a b d v => RelD a b d v) cc b r r3) : Rr RelE a c' (outD r) r3 := by
  cases r with
  | er i =>
    cases r3 with
    | ok _ => exact h.elim
    | er j => exact h
  | ok v =>
    obtain ⟨o, v⟩ := v
    cases r3 with
    | er j => cases o <;> exact h.elim
    | ok d =>
      cases o with
      | false =>
        refine ⟨[], by simp, ?_⟩
        show Un c'.Z c'.st d v
        rw [hz, hs]
        exact h
      | true =>
        obtain ⟨fr, t, h⟩ := h
        refine ⟨fr, fun n hn => ⟨ht n (t n hn).1, by rw [hs]; exact (t n hn).2⟩, ?_⟩
        show Con c'.Z c'.st fr d v
        rw [hz, hs]
        exact h
def qCall (n : Nat) (pd : PD) (p : PM (List Opd)) : PM Opd := pb p fun os pe Q => os.length = n ∧ match lkA os pe with
  | some (vs, pe1) => pd (vs.map Sl.sh) fun r _ => Q (outD r) pe1
  | none => False
theorem relAs_len {b : Cf} : ∀ {os : List Opd} {frs : List (List Nat)} {ds : List D}, RelAs b frs ds os → ds.length = os.length
  | [], frs, ds, h => by
    obtain ⟨rfl, rfl⟩ := h.nil
    rfl
  | o :: os, frs, ds, h => by
    obtain ⟨fr, frs, d, ds, rfl, rfl, h⟩ := h.cons
    simp [relAs_len h.2]
theorem call_ok {a b : Cf} {fd : FD} {pd : PD} (hd : SdD fd pd) (rb : RE b) (f : Fr a b) {ds : List D} {os : List Opd} (hr : RelA a b ds os) {vs : List P} {pe1 : PEnv} (e1 : lkA os b.pe = some (vs, pe1)) {Q : R3 Opd → PEnv → Prop} (hq : pd (vs.map Sl.sh) fun r _ => Q (outD r) pe1) : Got RelE a b.env (fd ds b.st) Q := by
  obtain ⟨c, rfl, g2, g3, g4, g5, g6⟩ := hr.leak rb f e1
  obtain ⟨r, r3, b2, m1, m2, m3, m4, m5, m6⟩ := hd ⟨c.Z, fun _ => [], ds.map some, c.st, vs.map Sl.sh⟩ ds (re_args g4 g6) rfl (clean_sh vs) _ hq
  have nf : ∀ i n, n ∈ b2.fp i → c.st.length ≤ n := fun i n z => by
    rcases m4.fpn i n z with y | y
    · simp at y
    · exact y
  have kp : ∀ n, n < c.st.length → b2.st[n]? = c.st[n]? := fun n hn => m4.keep n hn fun i z => by simp at z
  have zz : ∀ n, b2.Z n → c.Z n ∨ c.st.length ≤ n := fun n z => by
    rcases m4.zn n z with y | ⟨i, y⟩ | y
    · exact .inl y
    · simp at y
    · exact .inr y
  have rc : RE ⟨b2.Z, c.fp, c.env, b2.st, c.pe⟩ := ⟨g4.len, fun i v e => by
      obtain ⟨d, h1, h2⟩ := g4.sh i v e
      exact ⟨d, h1, h2.mono m4.z fun n z => kp n (g4.zb n z)⟩, fun i v e => by
      obtain ⟨d, h1, h2⟩ := g4.ow i v e
      exact ⟨d, h1, h2.mono m4.z (fun n z => kp n (g4.zb n z)) fun n z => kp n (g4.lt z)⟩, fun i v e => by
      obtain ⟨d, h1, h2⟩ := g4.pa i v e
      exact ⟨d, h1, h2.mono m4.z (fun n z => kp n (g4.zb n z)) fun n z => kp n (g4.lt z)⟩, g4.fz, fun i n z y => by
      rcases zz n y with y | y
      · exact g4.nz i n z y
      · have := g4.lt z
        omega, g4.dj, m3.zb, fun i cs us e => (g4.cap i cs us e).mono m4.z fun n z => kp n (g4.zb n z)⟩
  have fc : Fr a ⟨b2.Z, c.fp, c.env, b2.st, c.pe⟩ := ⟨fun n z => m4.z n (g5.z n z), fun n z => by
      rcases zz n z with y | y
      · exact g5.zn n y
      · exact .inr (.inr (Nat.le_trans g5.len y)), g5.fpn, fun n hn h => (kp n (Nat.lt_of_lt_of_le hn g5.len)).trans (g5.keep n hn h), Nat.le_trans g5.len m4.len, g5.pa, g5.pel⟩
  refine ⟨outD r, r3, ⟨b2.Z, c.fp, c.env, b2.st, c.pe⟩, ?_, g2, rc, fc, m5, ?_⟩
  · rw [← g3]
    exact m1
  · refine rel_out (a := a) (c := c) (c' := ⟨b2.Z, c.fp, c.env, b2.st, c.pe⟩) (cc := ⟨c.Z, fun _ => [], ds.map some, c.st, vs.map Sl.sh⟩) (b := b2) rfl rfl g5.len (fun n t => ⟨t.nz, fun i z => ?_, Nat.le_trans g5.len t.new⟩) m6
    have h1 := g4.lt (i := i) z
    have h2 : c.st.length ≤ n := t.new
    omega
theorem s_call {n : Nat} {fd : FD} {fr : F3 (List D)} {pd : PD} {p : PM (List Opd)} (hd : SdD fd pd) (h : SA fr p) : SE (fCall n fd fr) (qCall n pd p) := by
  refine h.bind fun a b ds os ra rb f e hr Q hq => ?_
  obtain ⟨hl, hq⟩ := hq
  split at hq
  · rename_i vs pe1 e1
    have hln : ds.length = n := by
      obtain ⟨frs, h1, _⟩ := hr.ex
      rw [relAs_len h1, hl]
    rw [if_pos hln]
    exact call_ok hd rb f hr e1 hq
  · exact hq.elim
/-! ### the first argument lent -/
/-- the first argument is an own thing, lent -/
def qCallL (n : Nat) (pd : PD) (p : PM (List Opd)) : PM Opd := pb p fun os pe Q => os.length = n ∧ match os with
  | .k i :: os => (match lkA os pe with
    | some (vs, pe1) => (match ownv pe1 i with
      | some u => pd (.pa u :: vs.map Sl.sh) fun r sls => match sls with
        | .pa u' :: _ => Q (outD r) (mutS pe1 i u')
        | _ => False
      | none => False)
    | none => False)
  | _ => False
theorem s_callL {n : Nat} {fd : FD} {fr : F3 (List D)} {pd : PD} {p : PM (List Opd)} (hd : SdD fd pd) (h : SA fr p) : SE (fCall n fd fr) (qCallL n pd p) := by
  refine h.bind fun a b ds os ra rb f e hr Q hq => ?_
  obtain ⟨hl, hq⟩ := hq
  have hln : ds.length = n := by
    obtain ⟨frs, h1, _⟩ := hr.ex
    rw [relAs_len h1, hl]
  rw [if_pos hln]
  split at hq
  · rename_i i os'
    split at hq
    · rename_i vs pe1 e1
      split at hq
      · rename_i u hu
        obtain ⟨frs, h1, h2, h3⟩ := hr.ex
        obtain ⟨fr0, frs, d, ds, rfl, rfl, h0, h1⟩ := h1.cons
        have h0 : b.env[i]? = some (some d) := h0
        rw [List.pairwise_cons] at h3
        obtain ⟨c, rfl, g2, g3, g4, g5, g6, _⟩ := leakA rb f h1 (fun fr hf n hn => h2 fr (by simp [hf]) n hn) h3.2 e1
        obtain ⟨d', q1, q2⟩ := ownv_con g4 hu
        rw [g2, h0] at q1
        cases q1
        have q1 : c.env[i]? = some (some d) := by rw [g2]; exact h0
        have ra0 := re_args g4 g6
        -- the callee's places
        have rcc : RE ⟨c.Z, fun j => if j = 0 then c.fp i else [], (d :: ds).map some, c.st, .pa u :: vs.map Sl.sh⟩ := by
          refine ⟨by simp [g6.length], fun j v e => ?_, fun j v e => ?_, fun j v e => ?_, fun j n z => ?_, fun j n z => ?_, fun j k n z y => ?_, g4.zb, fun j cs us e => ?_⟩
          · cases j with
            | zero => cases e
            | succ j => exact ra0.sh j v e
          · cases j with
            | zero => cases e
            | succ j =>
              have := List.mem_of_getElem? (show (vs.map Sl.sh)[j]? = some (Sl.ow v) from e)
              simp at this
          · cases j with
            | zero =>
              cases e
              exact ⟨d, rfl, q2⟩
            | succ j =>
              have := List.mem_of_getElem? (show (vs.map Sl.sh)[j]? = some (Sl.pa v) from e)
              simp at this
          · have z : n ∈ (if j = 0 then c.fp i else []) := z
            split at z
            · rename_i hj
              subst hj
              exact ⟨u, .inr rfl⟩
            · simp at z
          · have z : n ∈ (if j = 0 then c.fp i else []) := z
            split at z
            · exact g4.nz i n z
            · simp at z
          · have z : n ∈ (if j = 0 then c.fp i else []) := z
            have y : n ∈ (if k = 0 then c.fp i else []) := y
            split at z
            · split at y
              · omega
              · simp at y
            · simp at z
          · cases j with
            | zero => cases e
            | succ j => exact ra0.cap j cs us e
        obtain ⟨r, r3, b2, m1, m2, m3, m4, m5, m6⟩ := hd _ (d :: ds) rcc rfl (fun s hs => by
          rcases List.mem_cons.mp hs with rfl | hs
          · exact .inl ⟨u, .inr rfl⟩
          · exact clean_sh vs s hs) _ hq
        obtain ⟨⟨u1, x1⟩, x2, x3⟩ := m4.pa 0 u rfl
        have x2 : b2.fp 0 = c.fp i := x2
        have x3 : b2.env[0]? = some (some d) := x3
        split at m5
        · rename_i u' rest hsl
          clear x1
          obtain ⟨d2, y1, y2⟩ := m3.pa 0 u' (by rw [hsl]; rfl)
          rw [x3] at y1
          cases y1
          rw [x2] at y2
          have kp : ∀ n, n < c.st.length → n ∉ c.fp i → b2.st[n]? = c.st[n]? := fun n hn h => m4.keep n hn fun j z => by
            have z : n ∈ (if j = 0 then c.fp i else []) := z
            split at z
            · exact h z
            · simp at z
          have zz : ∀ n, b2.Z n → c.Z n ∨ c.st.length ≤ n := fun n z => by
            rcases m4.zn n z with y | ⟨j, y⟩ | y
            · exact .inl y
            · have y : n ∈ (if j = 0 then c.fp i else []) := y
              split at y
              · exact absurd z (m3.nz 0 n (by rw [x2]; exact y))
              · simp at y
            · exact .inr y
          have gm := fun j => mutS_get (j := j) (v' := u') hu
          have mlen : (mutS c.pe i u').length = c.pe.length := by
            unfold mutS
            split <;> simp
          have kz : ∀ n, c.Z n → b2.st[n]? = c.st[n]? := fun n z => kp n (g4.zb n z) fun y => g4.nz i n y z
          have kf : ∀ j, j ≠ i → ∀ n ∈ c.fp j, b2.st[n]? = c.st[n]? := fun j hj n z => kp n (g4.lt z) fun y => hj (g4.dj j i n z y)
          have rc : RE ⟨b2.Z, c.fp, c.env, b2.st, mutS c.pe i u'⟩ := by
            refine ⟨g4.len.trans mlen.symm, fun j v q => ?_, fun j v q => ?_, fun j v q => ?_, fun j n z => ?_, fun j n z y => ?_, g4.dj, m3.zb, fun j cs us q => by
                have q : (mutS c.pe i u')[j]? = some (Sl.cap cs us) := q
                rw [gm j] at q
                split at q
                · split at q <;> cases q
                · exact (g4.cap j cs us q).mono m4.z kz⟩
            · have q : (mutS c.pe i u')[j]? = some (Sl.sh v) := q
              rw [gm j] at q
              split at q
              · split at q <;> cases q
              · obtain ⟨d, h1, h2⟩ := g4.sh j v q
                exact ⟨d, h1, h2.mono m4.z kz⟩
            · have q : (mutS c.pe i u')[j]? = some (Sl.ow v) := q
              rw [gm j] at q
              split at q
              · rename_i hj
                subst hj
                split at q <;> cases q
                exact ⟨_, q1, y2⟩
              · rename_i hj
                obtain ⟨d, h1, h2⟩ := g4.ow j v q
                exact ⟨d, h1, h2.mono m4.z kz (kf j hj)⟩
            · have q : (mutS c.pe i u')[j]? = some (Sl.pa v) := q
              rw [gm j] at q
              split at q
              · rename_i hj
                subst hj
                split at q <;> cases q
                exact ⟨_, q1, y2⟩
              · rename_i hj
                obtain ⟨d, h1, h2⟩ := g4.pa j v q
                exact ⟨d, h1, h2.mono m4.z kz (kf j hj)⟩
            · obtain ⟨w, hw⟩ := g4.fz j n z
              by_cases hj : j = i
              · subst hj
                refine ⟨u', ?_⟩
                show (mutS c.pe j u')[j]? = _ ∨ (mutS c.pe j u')[j]? = _
                rw [gm j, if_pos rfl]
                rcases hw with hw | hw <;> rw [hw]
                · exact .inl rfl
                · exact .inr rfl
              · refine ⟨w, ?_⟩
                show (mutS c.pe i u')[j]? = _ ∨ (mutS c.pe i u')[j]? = _
                rw [gm j, if_neg hj]
                exact hw
            · rcases zz n y with y | y
              · exact g4.nz j n z y
              · have := g4.lt z
                omega
          have fc : Fr a ⟨b2.Z, c.fp, c.env, b2.st, mutS c.pe i u'⟩ := by
            refine ⟨fun n z => m4.z n (g5.z n z), fun n z => ?_, g5.fpn, fun n hn h => ?_, Nat.le_trans g5.len m4.len, fun j v q => ?_, mlen.trans g5.pel⟩
            · rcases zz n z with y | y
              · exact g5.zn n y
              · exact .inr (.inr (Nat.le_trans g5.len y))
            · refine (kp n (Nat.lt_of_lt_of_le hn g5.len) fun y => ?_).trans (g5.keep n hn h)
              rcases g5.fpn i n y with z | z
              · exact h i z
              · omega
            · obtain ⟨⟨u'', p1⟩, p2, p3⟩ := g5.pa j v q
              refine ⟨?_, p2, p3⟩
              show ∃ v'', (mutS c.pe i u')[j]? = _
              rw [gm j]
              by_cases hj : j = i
              · subst hj
                rw [if_pos rfl, p1]
                exact ⟨u', rfl⟩
              · rw [if_neg hj]
                exact ⟨u'', p1⟩
          refine ⟨outD r, r3, ⟨b2.Z, c.fp, c.env, b2.st, mutS c.pe i u'⟩, ?_, g2, rc, fc, m5, ?_⟩
          · rw [← g3]
            exact m1
          · refine rel_out (a := a) (c := c) (c' := ⟨b2.Z, c.fp, c.env, b2.st, mutS c.pe i u'⟩) (cc := ⟨c.Z, fun j => if j = 0 then c.fp i else [], (d :: ds).map some, c.st, .pa u :: vs.map Sl.sh⟩) (b := b2) rfl rfl g5.len (fun n t => ⟨t.nz, fun j z => ?_, Nat.le_trans g5.len t.new⟩) m6
            have h1 := g4.lt (i := j) z
            have h2 : c.st.length ≤ n := t.new
            omega
        · exact m5.elim
      · exact hq.elim
    · exact hq.elim
  · exact hq.elim
/-! ### keywords only -/
theorem relAs_get {b : Cf} : ∀ {os : List Opd} {frs : List (List Nat)} {ds : List D} {i : Nat} {o : Opd}, RelAs b frs ds os → os[i]? = some o → ∃ fr d, frs[i]? = some fr ∧ ds[i]? = some d ∧ RelO b fr d o
  | [], frs, ds, i, o, h, e => by simp at e
  | o :: os, frs, ds, 0, o', h, e => by
    obtain ⟨fr, frs, d, ds, rfl, rfl, h⟩ := h.cons
    simp at e
    subst e
    exact ⟨fr, d, rfl, rfl, h.1⟩
  | o :: os, frs, ds, i + 1, o', h, e => by
    obtain ⟨fr, frs, d, ds, rfl, rfl, h⟩ := h.cons
    obtain ⟨fr', d', h1, h2, h3⟩ := relAs_get h.2 (by simpa using e)
    exact ⟨fr', d', by simpa using h1, by simpa using h2, h3⟩
theorem perm_cons {α : Type} {i : Nat} {is : List Nat} {l m : List α} (h : perm (i :: is) l = some m) : ∃ x m', l[i]? = some x ∧ perm is l = some m' ∧ m = x :: m' := by
  unfold perm at h ⊢
  rw [List.mapM_cons] at h
  cases h1 : l[i]? with
  | none => rw [h1] at h; cases h
  | some x =>
    rw [h1] at h
    cases h2 : is.mapM (fun i => l[i]?) with
    | none => rw [h2] at h; cases h
    | some ys =>
      rw [h2] at h
      cases h
      exact ⟨x, ys, rfl, rfl, rfl⟩
theorem perm_cons' {α : Type} {i : Nat} {is : List Nat} {l m' : List α} {x : α} (h1 : l[i]? = some x) (h2 : perm is l = some m') : perm (i :: is) l = some (x :: m') := by
  unfold perm at h2 ⊢
  rw [List.mapM_cons, h1, h2]
  rfl
theorem relAs_perm {b : Cf} {frs : List (List Nat)} {ds : List D} {os : List Opd} (h : RelAs b frs ds os) : ∀ {is : List Nat} {os' : List Opd}, perm is os = some os' → ∃ frs' ds', perm is frs = some frs' ∧ perm is ds = some ds' ∧ RelAs b frs' ds' os'
  | [], os', e => by
    have z : some [] = some os' := e
    cases z
    exact ⟨[], [], rfl, rfl, trivial⟩
  | i :: is, os', e => by
    obtain ⟨o, m', e1, e2, rfl⟩ := perm_cons e
    obtain ⟨fr, d, h1, h2, h3⟩ := relAs_get h e1
    obtain ⟨frs', ds', k1, k2, k3⟩ := relAs_perm h e2
    exact ⟨fr :: frs', d :: ds', perm_cons' h1 k1, perm_cons' h2 k2, h3, k3⟩
theorem perm_mem {α : Type} {l : List α} : ∀ {is : List Nat} {m : List α}, perm is l = some m → ∀ x ∈ m, ∃ i ∈ is, l[i]? = some x
  | [], m, e, x, hx => by
    have z : some [] = some m := e
    cases z
    simp at hx
  | i :: is, m, e, x, hx => by
    obtain ⟨y, m', e1, e2, rfl⟩ := perm_cons e
    rcases List.mem_cons.mp hx with rfl | hx
    · exact ⟨i, by simp, e1⟩
    · obtain ⟨j, h1, h2⟩ := perm_mem e2 x hx
      exact ⟨j, by simp [h1], h2⟩
theorem perm_pair {α : Type} {l : List α} {R : α → α → Prop} (hs : ∀ x y, R x y → R y x) (h : l.Pairwise R) : ∀ {is : List Nat} {m : List α}, is.Nodup → perm is l = some m → m.Pairwise R
  | [], m, _, e => by
    have z : some [] = some m := e
    cases z
    exact .nil
  | i :: is, m, hn, e => by
    obtain ⟨y, m', e1, e2, rfl⟩ := perm_cons e
    rw [List.nodup_cons] at hn
    rw [List.pairwise_cons]
    refine ⟨fun x hx => ?_, perm_pair hs h hn.2 e2⟩
    obtain ⟨j, h1, h2⟩ := perm_mem e2 x hx
    have hij : i ≠ j := fun z => hn.1 (z ▸ h1)
    obtain ⟨l1, e1⟩ := List.getElem?_eq_some_iff.mp e1
    obtain ⟨l2, e2⟩ := List.getElem?_eq_some_iff.mp h2
    rw [← e1, ← e2]
    rw [List.pairwise_iff_getElem] at h
    rcases Nat.lt_or_ge i j with z | z
    · exact h i j l1 l2 z
    · exact hs _ _ (h j i l2 l1 (by omega))
theorem RelA.perm {a b : Cf} {ds : List D} {os os' : List Opd} {is : List Nat} (h : RelA a b ds os) (hn : is.Nodup) (e : S3.perm is os = some os') : ∃ ds', S3.perm is ds = some ds' ∧ RelA a b ds' os' := by
  obtain ⟨frs, h1, h2, h3⟩ := h.ex
  obtain ⟨frs', ds', k1, k2, k3⟩ := relAs_perm h1 e
  refine ⟨ds', k2, frs', k3, fun fr hf n hn' => ?_, perm_pair (fun x y h n hy hx => h n hx hy) h3 hn k1⟩
  obtain ⟨j, h4, h5⟩ := perm_mem k1 fr hf
  exact h2 fr (List.mem_of_getElem? h5) n hn'
def qCallK (is : List Nat) (pd : PD) (p : PM (List Opd)) : PM Opd := pb p fun os pe Q => os.length = is.length ∧ match perm is os with
  | some os' => match lkA os' pe with
    | some (vs, pe1) => pd (vs.map Sl.sh) fun r _ => Q (outD r) pe1
    | none => False
  | none => False
theorem s_callK {is : List Nat} {fd : FD} {fr : F3 (List D)} {pd : PD} {p : PM (List Opd)} (hd : SdD fd pd) (h : SA fr p) (hn : is.Nodup := by decide) : SE (fCallK is fd fr) (qCallK is pd p) := by
  refine h.bind fun a b ds os ra rb f e hr Q hq => ?_
  obtain ⟨hl, hq⟩ := hq
  have hln : ds.length = is.length := by
    obtain ⟨frs, h1, _⟩ := hr.ex
    rw [relAs_len h1, hl]
  rw [if_pos hln]
  split at hq
  · rename_i os' e0
    split at hq
    · rename_i vs pe1 e1
      obtain ⟨ds', k1, k2⟩ := hr.perm hn e0
      rw [k1]
      exact call_ok hd rb f k2 e1 hq
    · exact hq.elim
  · exact hq.elim
/-! ### a name that holds a def -/
abbrev PTab := Nat → Option (Nat × PD)
def TabSd (S : FTab) (pt : PTab) : Prop := ∀ j n pd, pt j = some (n, pd) → ∃ fd, S j = some (n, fd) ∧ SdD fd pd
def qCallV (i : Nat) (pt : PTab) (p : PM (List Opd)) : PM Opd := fun pe Q => match pe[i]? with
  | some (.sh (.fn j)) => match pt j with
    | some (n, pd) => qCall n pd p pe Q
    | none => False
  | _ => False
theorem s_callV {i : Nat} {S : FTab} {pt : PTab} {fr : F3 (List D)} {p : PM (List Opd)} (ht : TabSd S pt) (h : SA fr p) : SE (fCallV i S fr) (qCallV i pt p) := by
  intro a ra Q hq
  unfold qCallV at hq
  split at hq
  · rename_i j hj
    split at hq
    · rename_i n pd e1
      obtain ⟨fd, k1, k2⟩ := ht j n pd e1
      obtain ⟨d, h1, h2⟩ := ra.sh i _ hj
      cases h2
      have := s_call (n := n) k2 h a ra Q hq
      unfold fCallV
      rw [h1]
      dsimp only
      rw [k1]
      exact this
    · exact hq.elim
  · exact hq.elim
/-! ### errors caught -/
def qCaught (p : PM Opd) : PM Opd := fun pe Q => p pe fun r pe1 => match r with
  | .ok _ => Q (.ok (.s .non)) pe1
  | .er c => Q (.ok (.s (.exn c))) pe1
theorem s_caught {f : F3 D} {p : PM Opd} (h : SE f p) : SE (fCaught f) (qCaught p) := by
  intro a ra Q hq
  obtain ⟨r, r3, b, h1, h2, h3, h4, h5, h6⟩ := h a ra _ hq
  cases r with
  | ok o =>
    cases r3 with
    | er _ => exact h6.elim
    | ok d => exact .mk (b := b) (x := .non) (by unfold fCaught; rw [h1]) h2 h3 h4 h5 ⟨[], by simp, .non⟩
  | er i =>
    cases r3 with
    | ok _ => exact h6.elim
    | er j =>
      have h6 : i = j := h6
      subst h6
      exact .mk (b := b) (x := .exn i) (by unfold fCaught; rw [h1]) h2 h3 h4 h5 ⟨[], by simp, .exn i⟩
end S3

set_option maxHeartbeats 4000000
/-! S5J: the draws over values; the end. -/
namespace S3
open PySem PyProof.Rows L2

def most : Nat := 549755813888
def pd_begun : PD := fun sls Q => match sls with
  | [.sh (.lcon vs)] => (match pints vs with
    | some ns => ns.length ≤ 63 ∧ Q (.ok (true, .drw most)) [.sh (.lcon vs)]
    | none => False)
  | _ => False
def pd_take : PD := fun sls Q => match sls with
  | [.pa (.drw b), .sh (.int n)] => 0 < n ∧ n < 1073741824 ∧ 0 < b ∧ ∀ k : Int, 0 ≤ k → k < n → Q (.ok (false, .int k)) [.pa (.drw (b - 1)), .sh (.int n)]
  | _ => False
theorem ints_of {ds : List D} {vs : List P} {ns : List Int} {Z : Nat → Prop} {st : Sto} (h : UnA Z st ds vs) (e : pints vs = some ns) : ds = ns.map D.int := by
  induction vs generalizing ds ns with
  | nil =>
    cases h
    cases e
    rfl
  | cons v vs ih =>
    cases h with
    | cons h1 h2 =>
      cases v <;> try cases e
      unfold pints at e
      split at e
      · rename_i is e1
        cases e
        cases h1
        rw [ih h2 e1]
        rfl
      · cases e
theorem sd_begun : SdD dr_begun pd_begun := by
  intro a ds ra ea cl Q hq
  unfold pd_begun at hq
  split at hq
  · rename_i vs hpe
    split at hq
    · rename_i ns hns
      obtain ⟨hl, hq⟩ := hq
      obtain ⟨d, h1, h2⟩ := ra.sh 0 (.lcon vs) (by rw [hpe]; rfl)
      have hds : ds = [d] := by
        have : ds.length = 1 := by
          have := ra.len
          rw [ea, hpe] at this
          simpa using this
        match ds, this with
        | [x], _ =>
          rw [ea] at h1
          cases h1
          rfl
      subst hds
      cases h2 with
      | @lcon es _ a1 =>
        have hes := ints_of a1 hns
        subst hes
        obtain ⟨r, st', e1, p, w, c, rfl, ⟨rr, t, ws, cs, x⟩, ⟨l, hpre⟩, hp, hw, hc⟩ := begun_ok (st := a.st) (ns := ns) hl
        have kp : ∀ n, n < a.st.length → st'[n]? = a.st[n]? := fun n hn => by rw [hpre]; exact List.getElem?_append_left hn
        have len : a.st.length ≤ st'.length := by rw [hpre]; simp
        have nof : ∀ i, a.fp i = [] := fun i => by
          cases hf : a.fp i with
          | nil => rfl
          | cons n r =>
            exfalso
            obtain ⟨v, hv | hv⟩ := ra.fz i n (by rw [hf]; simp)
            · rw [hpe] at hv
              cases i <;> simp at hv
            · rw [hpe] at hv
              cases i <;> simp at hv
        obtain ⟨l1, l2, l3⟩ := x.len
        refine ⟨.ok (true, .drw most), .ok (.loc p), ⟨a.Z, a.fp, a.env, st', a.pe⟩, e1, rfl, ⟨ra.len, fun i v e => ?_, fun i v e => ?_, fun i v e => ?_, ra.fz, ra.nz, ra.dj, fun n z => Nat.lt_of_lt_of_le (ra.zb n z) len, fun i cs us e => (ra.cap i cs us e).mono (fun _ z => z) fun n z => kp n (ra.zb n z)⟩, ⟨fun _ z => z, fun _ z => .inl z, fun _ _ z => .inl z, fun n hn _ => kp n hn, len, fun i v e => ⟨⟨v, e⟩, rfl, rfl⟩, rfl⟩, by rw [hpe]; exact hq, [p, w, c], fun n hn => ?_, .drw ⟨rr, t, ws, cs, ⟨x.hp, x.hw, x.hc, x.pw, x.pc, x.wc, x.t0, ?_, x.wl, x.cl⟩, ?_⟩⟩
        · obtain ⟨d, k1, k2⟩ := ra.sh i v e
          exact ⟨d, k1, k2.mono (fun _ z => z) fun n z => kp n (ra.zb n z)⟩
        · obtain ⟨d, k1, k2⟩ := ra.ow i v e
          exact ⟨d, k1, k2.mono (fun _ z => z) (fun n z => kp n (ra.zb n z)) fun n z => kp n (ra.lt z)⟩
        · obtain ⟨d, k1, k2⟩ := ra.pa i v e
          exact ⟨d, k1, k2.mono (fun _ z => z) (fun n z => kp n (ra.zb n z)) fun n z => kp n (ra.lt z)⟩
        · have hn2 : a.st.length ≤ n ∧ n < st'.length := by
            simp at hn
            rcases hn with rfl | rfl | rfl
            · exact ⟨hp, l1⟩
            · exact ⟨hw, l2⟩
            · exact ⟨hc, l3⟩
          exact ⟨⟨fun z => by have := ra.zb n z; omega, fun i => by show n ∉ a.fp i; rw [nof i]; simp, hn2.1⟩, hn2.2⟩
        · have := x.tT
          omega
        · have := x.tT
          unfold most
          omega
    · exact hq.elim
  · exact hq.elim
theorem sd_take : SdD dr_take pd_take := by
  intro a ds ra ea cl Q hq
  unfold pd_take at hq
  split at hq
  · rename_i b n hpe
    obtain ⟨n0, n1, b0, hq⟩ := hq
    obtain ⟨d, h1, h2⟩ := ra.pa 0 (.drw b) (by rw [hpe]; rfl)
    obtain ⟨d2, g1, g2⟩ := ra.sh 1 (.int n) (by rw [hpe]; rfl)
    have hds : ds = [d, d2] := by
      have : ds.length = 2 := by
        have := ra.len
        rw [ea, hpe] at this
        simpa using this
      match ds, this with
      | [x, y], _ =>
        rw [ea] at h1 g1
        cases h1
        cases g1
        rfl
    subst hds
    cases g2
    generalize hfp : a.fp 0 = fp0 at h2
    cases h2 with
    | @drw p w c _ dc =>
      obtain ⟨r, t, ws, cs, x, tb⟩ := dc.ex
      have x0 : Drw a.st p w c t.toNat := ⟨r, t, ws, cs, x.hp, x.hw, x.hc, x.pw, x.pc, x.wc, x.t0, by have := x.t0; omega, x.wl, x.cl⟩
      have tt := x.t0
      obtain ⟨rd, st', e1, ⟨k, rfl, k0, k1⟩, ⟨r', t', ws', cs', x'⟩, fr⟩ := take_ok (many := n) x0 (by omega) n0 n1
      have zn : ∀ m, a.Z m → m ≠ p ∧ m ≠ w := fun m z => ⟨fun q => ra.nz 0 m (by rw [hfp]; simp [q]) z, fun q => ra.nz 0 m (by rw [hfp]; simp [q]) z⟩
      have kz : ∀ m, a.Z m → st'[m]? = a.st[m]? := fun m z => fr.at_ m (ra.zb m z) (zn m z).1 (zn m z).2
      have fp1 : ∀ i, i ≠ 0 → a.fp i = [] := fun i hi => by
        cases hf : a.fp i with
        | nil => rfl
        | cons m rr =>
          exfalso
          obtain ⟨v, hv⟩ := clean_fp ra cl (i := i) (n := m) (by rw [hf]; simp)
          rw [hpe] at hv
          match i, hi with
          | 1, _ => simp at hv
          | i + 2, _ => simp at hv
      have hq2 := hq k k0 k1
      have x't := x'.tT
      refine ⟨.ok (false, .int k), .ok (.int k), ⟨a.Z, a.fp, a.env, st', [.pa (.drw (b - 1)), .sh (.int n)]⟩, e1, rfl, ⟨by rw [ea]; rfl, fun i v e => ?_, fun i v e => ?_, fun i v e => ?_, fun i m z => ?_, ra.nz, ra.dj, fun m z => Nat.lt_of_lt_of_le (ra.zb m z) fr.len, fun i cs us e => by
        match i, e with
        | 1, e => cases e
        | 0, e => cases e
        | i + 2, e => simp at e⟩, ⟨fun _ z => z, fun _ z => .inl z, fun _ _ z => .inl z, fun m hm h => fr.at_ m hm (fun q => h 0 (by rw [hfp]; simp [q])) (fun q => h 0 (by rw [hfp]; simp [q])), fr.len, fun i v e => ?_, by rw [hpe]; rfl⟩, hq2, Un.int k⟩
      · match i, e with
        | 1, e =>
          cases e
          exact ⟨_, g1, .int n⟩
        | 0, e => cases e
        | i + 2, e => simp at e
      · match i, e with
        | 1, e => cases e
        | 0, e => cases e
        | i + 2, e => simp at e
      · match i, e with
        | 1, e => cases e
        | 0, e =>
          cases e
          refine ⟨_, h1, ?_⟩
          show Con a.Z st' (a.fp 0) _ _
          rw [hfp]
          have := x'.t0
          exact .drw ⟨r', t', ws', cs', ⟨x'.hp, x'.hw, x'.hc, x'.pw, x'.pc, x'.wc, x'.t0, by omega, x'.wl, x'.cl⟩, by omega⟩
        | i + 2, e => simp at e
      · by_cases hi : i = 0
        · subst hi
          exact ⟨_, .inr rfl⟩
        · have z : m ∈ a.fp i := z
          rw [fp1 i hi] at z
          simp at z
      · rw [hpe] at e
        match i, e with
        | 1, e => cases e
        | 0, e => exact ⟨⟨_, rfl⟩, rfl, rfl⟩
        | i + 2, e => simp at e
  · exact hq.elim
theorem main5 {fd : FD} {pd : PD} (h : SdD fd pd) (ns : List Int) (hq : pd [.sh (.lcon (ns.map P.int))] fun r _ => r = .ok (false, .bl true)) : ∃ st', fd [.lcon (ns.map D.int)] [] = some (.ok (.bl true), st') := by
  have ra : RE ⟨fun _ => False, fun _ => [], [some (.lcon (ns.map D.int))], [], [.sh (.lcon (ns.map P.int))]⟩ := by
    refine ⟨rfl, fun i v e => ?_, fun i v e => ?_, fun i v e => ?_, fun i n z => by simp at z, fun i n z => by simp at z, fun i j n z => by simp at z, fun n z => z.elim, fun i cs us e => by
      match i, e with
      | 0, e => cases e
      | i + 1, e => simp at e⟩
    · match i, e with
      | 0, e =>
        cases e
        exact ⟨_, rfl, .lcon (unA_ints ns)⟩
      | i + 1, e => simp at e
    · match i, e with
      | 0, e => cases e
      | i + 1, e => simp at e
    · match i, e with
      | 0, e => cases e
      | i + 1, e => simp at e
  obtain ⟨r, r3, b, h1, h2, h3, h4, h5, h6⟩ := h _ [.lcon (ns.map D.int)] ra rfl (fun s hs => by
    simp at hs
    exact .inl ⟨_, .inl hs⟩) _ hq
  subst h5
  cases r3 with
  | er j => exact h6.elim
  | ok d =>
    have h6 : Un b.Z b.st d (.bl true) := h6
    cases h6
    exact ⟨_, h1⟩
end S3

set_option maxHeartbeats 4000000
/-! S5K: defs that take a lambda; its call there; the call that hands it in. -/
namespace S3
open PySem PyProof.Rows L2

def SdDL (m : Nat) (fd : FD) (pd : PD) : Prop := ∀ a ds, RE a → ds.length = m → a.env = ds.map some ++ [none] → Clean a.pe → ∀ Q, pd a.pe Q → GotD a (fd ds a.st) Q
theorem s_defL {n m : Nat} {fs : FS} {body : PS} (h : SdS fs body) (hn : m < n) : SdDL m (fdOf n fs) (pdOf n body) := by
  intro a ds ra dl ea cl Q hq
  have la : a.pe.length = ds.length + 1 := by rw [← ra.len, ea]; simp
  have hdn : ds.length < n := by omega
  let a' : Cf := ⟨a.Z, a.fp, ds.map some ++ List.replicate (n - ds.length) none, a.st, a.pe ++ List.replicate (n - a.pe.length) .no⟩
  have gp : ∀ i, i < a.pe.length → a'.pe[i]? = a.pe[i]? := fun i hi => List.getElem?_append_left hi
  have ge : ∀ i, i < a.pe.length → a'.env[i]? = a.env[i]? := fun i hi => by
    have e1 : ds.map some ++ List.replicate (n - ds.length) none = a.env ++ List.replicate (n - a.pe.length) none := by
      rw [ea, la, List.append_assoc]
      congr 1
      rw [show n - ds.length = (n - (ds.length + 1)) + 1 by omega, List.replicate_succ]
      rfl
    show (ds.map some ++ List.replicate (n - ds.length) none)[i]? = _
    rw [e1]
    exact List.getElem?_append_left (by rw [ra.len]; exact hi)
  have gno : ∀ (i : Nat) (s : Sl), a'.pe[i]? = some s → s ≠ .no → i < a.pe.length := fun i s e hs => by
    by_cases hi : i < a.pe.length
    · exact hi
    · have e : (a.pe ++ List.replicate (n - a.pe.length) Sl.no)[i]? = some s := e
      rw [List.getElem?_append_right (by omega)] at e
      have := List.mem_of_getElem? e
      simp at this
      exact absurd this.2 hs
  have fpl : ∀ i m, m ∈ a.fp i → i < a.pe.length := fun i m z => by
    obtain ⟨v, hv⟩ := clean_fp ra cl z
    exact (List.getElem?_eq_some_iff.mp hv).1
  have ra' : RE a' := ⟨by simp [a', la]; omega, fun i v e => by
      have hi := gno i _ e (by intro z; cases z)
      rw [gp i hi] at e
      obtain ⟨d, h1, h2⟩ := ra.sh i v e
      exact ⟨d, (ge i hi).trans h1, h2⟩, fun i v e => by
      have hi := gno i _ e (by intro z; cases z)
      rw [gp i hi] at e
      obtain ⟨d, h1, h2⟩ := ra.ow i v e
      exact ⟨d, (ge i hi).trans h1, h2⟩, fun i v e => by
      have hi := gno i _ e (by intro z; cases z)
      rw [gp i hi] at e
      obtain ⟨d, h1, h2⟩ := ra.pa i v e
      exact ⟨d, (ge i hi).trans h1, h2⟩, fun i m z => by
      obtain ⟨w, hw⟩ := ra.fz i m z
      exact ⟨w, by rw [gp i (fpl i m z)]; exact hw⟩, ra.nz, ra.dj, ra.zb, fun i cs vs e => by
      have hi := gno i _ e (by intro z; cases z)
      rw [gp i hi] at e
      exact ra.cap i cs vs e⟩
  obtain ⟨r, x, b', k1, k2, k3, k4, k5⟩ := h a' ra' _ hq
  have k1 : fs (ds.map some ++ List.replicate (n - ds.length) none) a.st = some (x, b'.env, b'.st) := k1
  have hle : a.pe.length ≤ b'.pe.length := by rw [k3.pel]; simp [a']
  have paOf : ∀ (i : Nat) (v : P), a.pe[i]? = some (Sl.pa v) → (∃ v', b'.pe[i]? = some (Sl.pa v')) ∧ b'.fp i = a.fp i ∧ b'.env[i]? = a.env[i]? := fun i v e => by
    have hi := (List.getElem?_eq_some_iff.mp e).1
    obtain ⟨h1, h2, h3⟩ := k3.pa i v ((gp i hi).trans e)
    exact ⟨h1, h2, h3.trans (ge i hi)⟩
  have mg : ∀ i : Nat, (mrg a.pe b'.pe)[i]? = match a.pe[i]? with
    | some (Sl.pa _) => b'.pe[i]?
    | o => o := fun i => mrg_get _ _ i hle
  have mpa : ∀ (i : Nat) (v : P), a.pe[i]? = some (Sl.pa v) → (mrg a.pe b'.pe)[i]? = b'.pe[i]? := fun i v e => by rw [mg i, e]
  let b : Cf := ⟨b'.Z, a.fp, a.env, b'.st, mrg a.pe b'.pe⟩
  have rb : RE b := by
    refine ⟨by show a.env.length = (mrg a.pe b'.pe).length; rw [mrg_len _ _ hle, ra.len], fun i v e => ?_, fun i v e => ?_, fun i v e => ?_, fun i m z => ?_, fun i m z => ?_, ra.dj, k2.zb, fun i cs vs e => ?_⟩
    · have e : (mrg a.pe b'.pe)[i]? = some (Sl.sh v) := e
      rw [mg i] at e
      split at e
      · rename_i u hu
        obtain ⟨⟨v', x1⟩, _⟩ := paOf i u hu
        rw [x1] at e
        cases e
      · obtain ⟨d, h1, h2⟩ := ra.sh i v e
        exact ⟨d, h1, k3.un ra' h2⟩
    · have e : (mrg a.pe b'.pe)[i]? = some (Sl.ow v) := e
      rw [mg i] at e
      split at e
      · rename_i u hu
        obtain ⟨⟨v', x1⟩, _⟩ := paOf i u hu
        rw [x1] at e
        cases e
      · rcases cl _ (List.mem_of_getElem? e) with ⟨u, hu | hu⟩ | ⟨cs, vs, hu⟩ <;> cases hu
    · have e : (mrg a.pe b'.pe)[i]? = some (Sl.pa v) := e
      rw [mg i] at e
      split at e
      · rename_i u hu
        obtain ⟨x1, x2, x3⟩ := paOf i u hu
        obtain ⟨d, h1, h2⟩ := k2.pa i v e
        exact ⟨d, by rw [← x3]; exact h1, by rw [← x2]; exact h2⟩
      · rename_i hne
        exact absurd e (hne v)
    · obtain ⟨v, hv⟩ := clean_fp ra cl z
      obtain ⟨⟨v', x1⟩, x2, x3⟩ := paOf i v hv
      exact ⟨v', .inr ((mpa i v hv).trans x1)⟩
    · obtain ⟨v, hv⟩ := clean_fp ra cl z
      obtain ⟨⟨v', x1⟩, x2, x3⟩ := paOf i v hv
      exact k2.nz i m (by rw [x2]; exact z)
    · have e : (mrg a.pe b'.pe)[i]? = some (Sl.cap cs vs) := e
      rw [mg i] at e
      split at e
      · rename_i u hu
        obtain ⟨⟨v', x1⟩, _⟩ := paOf i u hu
        rw [x1] at e
        cases e
      · exact k3.unA ra' (ra.cap i cs vs e)
  have fb : Fr a b := ⟨k3.z, k3.zn, fun i m z => .inl z, k3.keep, k3.len, fun i v e => by
    obtain ⟨⟨v', x1⟩, x2, x3⟩ := paOf i v e
    exact ⟨⟨v', (mpa i v e).trans x1⟩, rfl, rfl⟩, mrg_len _ _ hle⟩
  have tmpOf : ∀ m, TmR a' b' m → Tmp a b m := fun m t => ⟨t.nz, fun i z => by
    obtain ⟨v, hv⟩ := clean_fp ra cl z
    obtain ⟨_, x2, _⟩ := paOf i v hv
    exact t.nf i (by rw [x2]; exact z), by
    rcases t.new with z | ⟨i, v, z1, z2⟩
    · exact z
    · obtain ⟨u, hu⟩ := clean_fp ra cl z2
      rw [gp i (fpl i m z2), hu] at z1
      cases z1⟩
  cases r with
  | nx =>
    cases x <;> try exact k5.elim
    exact ⟨.ok (false, .non), .ok .non, b, by unfold fdOf; rw [k1], rfl, rb, fb, k4, Un.non⟩
  | rt o v =>
    cases x with
    | rt d =>
      cases o with
      | false => exact ⟨.ok (false, v), .ok d, b, by unfold fdOf; rw [k1], rfl, rb, fb, k4, k5⟩
      | true =>
        obtain ⟨fr, t, hc⟩ := k5
        exact ⟨.ok (true, v), .ok d, b, by unfold fdOf; rw [k1], rfl, rb, fb, k4, fr, fun m hm => ⟨tmpOf m (t m hm).1, (t m hm).2⟩, hc⟩
    | _ => cases o <;> exact k5.elim
  | bk => exact k4.elim
  | ct => exact k4.elim
  | er c =>
    cases x <;> try exact k5.elim
    exact ⟨.er c, .er _, b, by unfold fdOf; rw [k1], rfl, rb, fb, k4, k5⟩


theorem fdLam_eq {N : List Str} {f : F3 D} : fdLam N f = fdOf N.length (fRet f) := by
  funext xs st
  unfold fdLam fdOf fRet eff
  cases f (xs.map some ++ List.replicate (N.length - xs.length) none) st with
  | none => rfl
  | some p =>
    obtain ⟨r, st'⟩ := p
    cases r <;> rfl
theorem sd_lam {N : List Str} {f : F3 D} {p : PM Opd} (h : SE f p) : SdD (fdLam N f) (pdOf N.length (qRet p)) := by
  rw [fdLam_eq]
  exact s_def (s_ret h)
/-- back from a callee that owns nothing of the caller's -/
theorem call_back {a c cc : Cf} (g4 : RE c) (g5 : Fr a c) (hZ : cc.Z = c.Z) (hst : cc.st = c.st) (hfp : ∀ i, cc.fp i = []) {g : Option (R3 D × Sto)} {Q : R3 Opd → PEnv → Prop} (hd : GotD cc g fun r _ => Q (outD r) c.pe) : Got RelE a c.env g Q := by
  obtain ⟨r, r3, b2, m1, m2, m3, m4, m5, m6⟩ := hd
  have nf : ∀ i n, n ∈ b2.fp i → c.st.length ≤ n := fun i n z => by
    rcases m4.fpn i n z with y | y
    · rw [hfp] at y
      simp at y
    · rw [hst] at y
      exact y
  have kp : ∀ n, n < c.st.length → b2.st[n]? = c.st[n]? := fun n hn => by
    have := m4.keep n (by rw [hst]; exact hn) fun i z => by rw [hfp] at z; simp at z
    rw [hst] at this
    exact this
  have zz : ∀ n, b2.Z n → c.Z n ∨ c.st.length ≤ n := fun n z => by
    rcases m4.zn n z with y | ⟨i, y⟩ | y
    · rw [hZ] at y
      exact .inl y
    · rw [hfp] at y
      simp at y
    · rw [hst] at y
      exact .inr y
  have mz : ∀ n, c.Z n → b2.Z n := fun n z => m4.z n (by rw [hZ]; exact z)
  have ml : c.st.length ≤ b2.st.length := by
    have := m4.len
    rw [hst] at this
    exact this
  have rc : RE ⟨b2.Z, c.fp, c.env, b2.st, c.pe⟩ := ⟨g4.len, fun i v e => by
      obtain ⟨d, h1, h2⟩ := g4.sh i v e
      exact ⟨d, h1, h2.mono mz fun n z => kp n (g4.zb n z)⟩, fun i v e => by
      obtain ⟨d, h1, h2⟩ := g4.ow i v e
      exact ⟨d, h1, h2.mono mz (fun n z => kp n (g4.zb n z)) fun n z => kp n (g4.lt z)⟩, fun i v e => by
      obtain ⟨d, h1, h2⟩ := g4.pa i v e
      exact ⟨d, h1, h2.mono mz (fun n z => kp n (g4.zb n z)) fun n z => kp n (g4.lt z)⟩, g4.fz, fun i n z y => by
      rcases zz n y with y | y
      · exact g4.nz i n z y
      · have := g4.lt z
        omega, g4.dj, m3.zb, fun i cs us e => (g4.cap i cs us e).mono mz fun n z => kp n (g4.zb n z)⟩
  have fc : Fr a ⟨b2.Z, c.fp, c.env, b2.st, c.pe⟩ := ⟨fun n z => mz n (g5.z n z), fun n z => by
      rcases zz n z with y | y
      · exact g5.zn n y
      · exact .inr (.inr (Nat.le_trans g5.len y)), g5.fpn, fun n hn h => (kp n (Nat.lt_of_lt_of_le hn g5.len)).trans (g5.keep n hn h), Nat.le_trans g5.len ml, g5.pa, g5.pel⟩
  refine ⟨outD r, r3, ⟨b2.Z, c.fp, c.env, b2.st, c.pe⟩, m1, rfl, rc, fc, m5, ?_⟩
  refine rel_out (a := a) (c := c) (c' := ⟨b2.Z, c.fp, c.env, b2.st, c.pe⟩) (cc := cc) (b := b2) rfl rfl (by rw [hst]; exact g5.len) (fun n t => ⟨t.nz, fun i z => ?_, Nat.le_trans g5.len (by have := t.new; rw [hst] at this; exact this)⟩) m6
  have h1 := g4.lt (i := i) z
  have h2 := t.new
  rw [hst] at h2
  omega
/-- the parameter called -/
def qCallR (i : Nat) (cs : List D) (n : Nat) (pdl : PD) (p : PM (List Opd)) : PM Opd := pb p fun os pe Q => os.length = n ∧ match lkA os pe with
  | some (vs, pe1) => (match pe1[i]? with
    | some (.cap cs' ws) => cs' = cs ∧ pdl ((vs ++ ws).map Sl.sh) fun r _ => Q (outD r) pe1
    | _ => False)
  | none => False
theorem s_callR {i n : Nat} {cs : List D} {fdl : FD} {pdl : PD} {fr : F3 (List D)} {p : PM (List Opd)} (hd : SdD fdl pdl) (h : SA fr p) : SE (fCall n (capF fdl cs) fr) (qCallR i cs n pdl p) := by
  refine h.bind fun a b ds os ra rb f e hr Q hq => ?_
  obtain ⟨hl, hq⟩ := hq
  have hln : ds.length = n := by
    obtain ⟨frs, h1, _⟩ := hr.ex
    rw [relAs_len h1, hl]
  rw [if_pos hln]
  split at hq
  · rename_i vs pe1 e1
    split at hq
    · rename_i cs' ws hw
      obtain ⟨rfl, hq⟩ := hq
      obtain ⟨c, rfl, g2, g3, g4, g5, g6⟩ := hr.leak rb f e1
      have uc := g4.cap i _ _ hw
      have ua := g6.append uc
      have := call_back (a := a) (c := c) (cc := ⟨c.Z, fun _ => [], (ds ++ cs').map some, c.st, (vs ++ ws).map Sl.sh⟩) g4 g5 rfl rfl (fun _ => rfl) (hd _ (ds ++ cs') (re_args g4 ua) rfl (clean_sh _) _ hq)
      rw [g2, g3] at this
      exact this
    · exact hq.elim
  · exact hq.elim
/-- the captured values -/
def capsP (pe : PEnv) : List Nat → Option (List P)
  | [] => some []
  | j :: js => match pe[j]?, capsP pe js with
    | some (.sh v), some vs => some (v :: vs)
    | _, _ => none
theorem capsP_ok {c : Cf} (r : RE c) : ∀ {js : List Nat} {vs : List P}, capsP c.pe js = some vs → ∃ cs, capsE c.env js = some cs ∧ UnA c.Z c.st cs vs
  | [], vs, e => by
    cases e
    exact ⟨[], rfl, .nil⟩
  | j :: js, vs, e => by
    unfold capsP at e
    split at e
    · rename_i v ws e1 e2
      cases e
      obtain ⟨d, h1, h2⟩ := r.sh j v e1
      obtain ⟨cs, h3, h4⟩ := capsP_ok r e2
      exact ⟨d :: cs, by unfold capsE; rw [h1, h3], .cons h2 h4⟩
    · cases e
def qCallLm (m : Nat) (js : List Nat) (pdn : List D → PD) (p : PM (List Opd)) : PM Opd := pb p fun os pe Q => os.length = m ∧ match lkA os pe with
  | some (vs, pe1) => (match capsP pe1 js with
    | some ws => ∀ cs : List D, pdn cs (vs.map Sl.sh ++ [.cap cs ws]) fun r _ => Q (outD r) pe1
    | none => False)
  | none => False
theorem s_callLm {m : Nat} {js : List Nat} {fdn : FD → FD} {fdl : FD} {pdn : List D → PD} {fr : F3 (List D)} {p : PM (List Opd)} (hd : ∀ cs, SdDL m (fdn (capF fdl cs)) (pdn cs)) (h : SA fr p) : SE (fCallLm m js fdn fdl fr) (qCallLm m js pdn p) := by
  refine h.bind fun a b ds os ra rb f e hr Q hq => ?_
  obtain ⟨hl, hq⟩ := hq
  have hln : ds.length = m := by
    obtain ⟨frs, h1, _⟩ := hr.ex
    rw [relAs_len h1, hl]
  rw [if_pos hln]
  split at hq
  · rename_i vs pe1 e1
    split at hq
    · rename_i ws hw
      obtain ⟨c, rfl, g2, g3, g4, g5, g6⟩ := hr.leak rb f e1
      obtain ⟨cs, h1, h2⟩ := capsP_ok g4 hw
      have r0 := re_args g4 g6
      have rcc : RE ⟨c.Z, fun _ => [], ds.map some ++ [none], c.st, vs.map Sl.sh ++ [.cap cs ws]⟩ := by
        have key : ∀ (i : Nat) (s : Sl), (vs.map Sl.sh ++ [.cap cs ws])[i]? = some s → ((vs.map Sl.sh)[i]? = some s ∧ i < ds.length) ∨ s = .cap cs ws := fun i s e => by
          by_cases hi : i < vs.length
          · rw [List.getElem?_append_left (by simpa using hi)] at e
            exact .inl ⟨e, by rw [g6.length]; exact hi⟩
          · rw [List.getElem?_append_right (by simpa using hi)] at e
            have := List.mem_of_getElem? e
            simp at this
            exact .inr this
        refine ⟨by simp [g6.length], fun i v e => ?_, fun i v e => ?_, fun i v e => ?_, fun i n z => by simp at z, fun i n z => by simp at z, fun i j n z => by simp at z, g4.zb, fun i cs' ws' e => ?_⟩
        · rcases key i _ e with ⟨k, hi⟩ | k
          · obtain ⟨d, q1, q2⟩ := r0.sh i v k
            exact ⟨d, by show (ds.map some ++ [none])[i]? = _; rw [List.getElem?_append_left (by simpa using hi)]; exact q1, q2⟩
          · cases k
        · rcases key i _ e with ⟨k, hi⟩ | k
          · have := List.mem_of_getElem? k
            simp at this
          · cases k
        · rcases key i _ e with ⟨k, hi⟩ | k
          · have := List.mem_of_getElem? k
            simp at this
          · cases k
        · rcases key i _ e with ⟨k, hi⟩ | k
          · have := List.mem_of_getElem? k
            simp at this
          · cases k
            exact h2
      have := call_back (a := a) (c := c) (cc := ⟨c.Z, fun _ => [], ds.map some ++ [none], c.st, vs.map Sl.sh ++ [.cap cs ws]⟩) g4 g5 rfl rfl (fun _ => rfl) (hd cs ⟨c.Z, fun _ => [], ds.map some ++ [none], c.st, vs.map Sl.sh ++ [.cap cs ws]⟩ ds rcc hln rfl (fun s hs => by
        rcases List.mem_append.mp hs with hs | hs
        · exact clean_sh vs s hs
        · simp at hs
          exact .inr ⟨cs, ws, hs⟩) _ (hq cs))
      rw [← g2, h1, ← g3]
      exact this
    · exact hq.elim
  · exact hq.elim
end S3

set_option maxHeartbeats 4000000
/-! S5L: more operations on values. -/
namespace S3
open PySem PyProof.Rows L2
def pstrs : List P → Option (List Str)
  | [] => some []
  | .str i :: r => match pstrs r with
    | some is => some (i :: is)
    | none => none
  | _ => none
theorem UnA.strs {Z : Nat → Prop} {st : Sto} : ∀ {ds : List D} {vs : List P} {us : List Str}, UnA Z st ds vs → pstrs vs = some us → strsOf ds = some us
  | _, _, us, .nil, e => e
  | _, _, us, .cons h a, e => by
    cases h <;> try cases e
    unfold pstrs at e
    split at e
    · rename_i is e1
      cases e
      unfold strsOf
      rw [a.strs e1]
    · cases e
def qSortedS : Op (List P) := fun p => match p with
  | [x] => match pseqL x with
    | some ds => match pstrs ds with
      | some is => if is.length < 64 then some (true, .lst ((ssort is).map P.str)) else none
      | none => none
    | none => none
  | _ => none
theorem op_sortedS5 : OpP VwA oSortedS qSortedS := opP_list fun c x v b w r hv e => by
  unfold qSortedS at e
  split at e
  · split at e
    · rename_i vs e1
      split at e
      · rename_i is e2
        split at e
        · rename_i hl
          cases e
          obtain ⟨d, rfl, h⟩ := hv.one
          obtain ⟨ds, k1, _, k2⟩ := h.seqL e1
          refine ⟨rfl, (ssort is).map D.str, _, rfl, ?_, unA_map (fun i => .str _) _⟩
          unfold oSortedS
          dsimp only
          rw [k1]
          dsimp only
          rw [k2.strs e2]
          exact if_pos hl
        · cases e
      · cases e
    · cases e
  · cases e
end S3

set_option maxHeartbeats 4000000
/-! S6A: how terms over values are read. -/
namespace S3
open PySem PyProof.Rows L2
section
variable {α β : Type} {pe : PEnv}
@[simp ↓] theorem ev_C {x : α} {Q : R3 α → PEnv → Prop} : qC x pe Q = Q (.ok x) pe := rfl
@[simp ↓] theorem ev_b {p : PM α} {k : α → PM β} {Q : R3 β → PEnv → Prop} : pb p k pe Q = p pe fun r pe1 => match r with
  | .ok x => k x pe1 Q
  | .er c => Q (.er c) pe1 := rfl
@[simp ↓] theorem ev_var0 {v : P} {r : PEnv} {Q : R3 Opd → PEnv → Prop} : qVar 0 (.sh v :: r) Q = Q (.ok (.s v)) (.sh v :: r) := rfl
@[simp ↓] theorem ev_var1 {v : P} {s0 : Sl} {r : PEnv} {Q : R3 Opd → PEnv → Prop} : qVar 1 (s0 :: .sh v :: r) Q = Q (.ok (.s v)) (s0 :: .sh v :: r) := rfl
@[simp ↓] theorem ev_var2 {v : P} {s0 s1 : Sl} {r : PEnv} {Q : R3 Opd → PEnv → Prop} : qVar 2 (s0 :: s1 :: .sh v :: r) Q = Q (.ok (.s v)) (s0 :: s1 :: .sh v :: r) := rfl
@[simp ↓] theorem ev_var3 {v : P} {s0 s1 s2 : Sl} {r : PEnv} {Q : R3 Opd → PEnv → Prop} : qVar 3 (s0 :: s1 :: s2 :: .sh v :: r) Q = Q (.ok (.s v)) (s0 :: s1 :: s2 :: .sh v :: r) := rfl
end
/-- a slot's reading, by what the slot is -/
theorem ev_var {i : Nat} {v : P} {pe : PEnv} {Q : R3 Opd → PEnv → Prop} (h : pe[i]? = some (.sh v)) (q : Q (.ok (.s v)) pe) : qVar i pe Q := by
  unfold qVar
  rw [h]
  exact q
theorem loopP_cps {t : T5} {body : PS} {Q : Flp → PEnv → Prop} (I : List P → PEnv → Prop) (hstep : ∀ x xs pe, I (x :: xs) pe → ∃ pe1, t x pe = some pe1 ∧ ∀ K : Flp → PEnv → Prop, (∀ pe2, I xs pe2 → K .nx pe2) → (∀ pe2, I xs pe2 → K .ct pe2) → (∀ pe2, Q .nx pe2 → K .bk pe2) → (∀ b v pe2, Q (.rt b v) pe2 → K (.rt b v) pe2) → (∀ c pe2, Q (.er c) pe2 → K (.er c) pe2) → body pe1 K) (hend : ∀ pe, I [] pe → Q .nx pe) : ∀ (xs : List P) (pe : PEnv), I xs pe → loopP t body xs pe Q
  | [], pe, h => hend pe h
  | x :: xs, pe, h => by
    obtain ⟨pe1, e1, hb⟩ := hstep x xs pe h
    show (match t x pe with | some pe1 => _ | none => False)
    rw [e1]
    refine hb _ (fun pe2 h2 => ?_) (fun pe2 h2 => ?_) (fun pe2 h2 => h2) (fun b v pe2 h2 => h2) fun c pe2 h2 => h2
    · exact loopP_cps I hstep hend xs pe2 h2
    · exact loopP_cps I hstep hend xs pe2 h2
theorem while_cps {t : PM Bool} {body : PS} {Q : Flp → PEnv → Prop} (I : Nat → PEnv → Prop) (hstep : ∀ m pe, I m pe → ∀ K : R3 Bool → PEnv → Prop, (∀ pe1, (∀ K2 : Flp → PEnv → Prop, (∀ j pe2, j < m → I j pe2 → K2 .nx pe2) → (∀ j pe2, j < m → I j pe2 → K2 .ct pe2) → (∀ pe2, Q .nx pe2 → K2 .bk pe2) → (∀ b v pe2, Q (.rt b v) pe2 → K2 (.rt b v) pe2) → (∀ c pe2, Q (.er c) pe2 → K2 (.er c) pe2) → body pe1 K2) → K (.ok true) pe1) → (∀ pe1, Q .nx pe1 → K (.ok false) pe1) → t pe K) : ∀ (n m : Nat) (pe : PEnv), m < n → I m pe → qWhile t body n pe Q
  | 0, m, pe, h, _ => by omega
  | n + 1, m, pe, h, hi => by
    refine hstep m pe hi _ (fun pe1 hb => ?_) fun pe1 hq => hq
    refine hb _ (fun j pe2 hj h2 => ?_) (fun j pe2 hj h2 => ?_) (fun pe2 h2 => h2) (fun b v pe2 h2 => h2) fun c pe2 h2 => h2
    · exact while_cps I hstep n j pe2 (by omega) h2
    · exact while_cps I hstep n j pe2 (by omega) h2
/-- a comprehension whose turns change nothing -/
theorem loopQ_map {t : T5} {qt : PM Bool} {qe : PM Opd} {vs : List Nat} {Q : List P → PEnv → Prop} {pe : PEnv} (G : P → Bool) (F : P → P) (h : ∀ x, (∃ pe1, t x pe = some pe1 ∧ wipeP pe1 vs = pe ∧ (∀ K : R3 Bool → PEnv → Prop, K (.ok (G x)) pe1 → qt pe1 K) ∧ (G x = true → ∀ K : R3 Opd → PEnv → Prop, K (.ok (.s (F x))) pe1 → qe pe1 K)) ∨ False) : ∀ (items acc : List P), acc.length + items.length ≤ sizeLine → Q (acc ++ (items.filter G).map F) pe → loopQ t qt qe vs items acc pe Q
  | [], acc, hl, hq => by simpa [loopQ] using hq
  | x :: xs, acc, hl, hq => by
    obtain ⟨pe1, e1, ew, hG, hF⟩ := (h x).elim id False.elim
    show (match t x pe with | some pe1 => _ | none => False)
    rw [e1]
    refine hG _ ?_
    cases hg : G x with
    | false =>
      show loopQ t qt qe vs xs acc (wipeP pe1 vs) Q
      rw [ew]
      exact loopQ_map G F h xs acc (by simp at hl; omega) (by simpa [hg] using hq)
    | true =>
      refine hF hg _ ?_
      show acc.length < sizeLine ∧ loopQ t qt qe vs xs (acc ++ [F x]) (wipeP pe1 vs) Q
      rw [ew]
      exact ⟨by simp at hl; omega, loopQ_map G F h xs (acc ++ [F x]) (by simp at hl ⊢; omega) (by simpa [hg] using hq)⟩
/-- the same, told of the items alone -/
theorem loopQ_mapM {t : T5} {qt : PM Bool} {qe : PM Opd} {vs : List Nat} {Q : List P → PEnv → Prop} {pe : PEnv} (G : P → Bool) (F : P → P) : ∀ (items acc : List P), (∀ x ∈ items, ∃ pe1, t x pe = some pe1 ∧ wipeP pe1 vs = pe ∧ (∀ K : R3 Bool → PEnv → Prop, K (.ok (G x)) pe1 → qt pe1 K) ∧ (G x = true → ∀ K : R3 Opd → PEnv → Prop, K (.ok (.s (F x))) pe1 → qe pe1 K)) → acc.length + items.length ≤ sizeLine → Q (acc ++ (items.filter G).map F) pe → loopQ t qt qe vs items acc pe Q
  | [], acc, _, hl, hq => by simpa [loopQ] using hq
  | x :: xs, acc, h, hl, hq => by
    obtain ⟨pe1, e1, ew, hG, hF⟩ := h x (by simp)
    show (match t x pe with | some pe1 => _ | none => False)
    rw [e1]
    refine hG _ ?_
    cases hg : G x with
    | false =>
      show loopQ t qt qe vs xs acc (wipeP pe1 vs) Q
      rw [ew]
      exact loopQ_mapM G F xs acc (fun y hy => h y (List.mem_cons_of_mem _ hy)) (by simp at hl; omega) (by simpa [hg] using hq)
    | true =>
      refine hF hg _ ?_
      show acc.length < sizeLine ∧ loopQ t qt qe vs xs (acc ++ [F x]) (wipeP pe1 vs) Q
      rw [ew]
      exact ⟨by simp at hl; omega, loopQ_mapM G F xs (acc ++ [F x]) (fun y hy => h y (List.mem_cons_of_mem _ hy)) (by simp at hl ⊢; omega) (by simpa [hg] using hq)⟩
end S3

set_option maxHeartbeats 4000000
/-! S6B: what a term over values gives, where it gives one thing. -/
namespace S3
open PySem PyProof.Rows L2
def Ev {α : Type} (p : PM α) (pe : PEnv) (x : α) (pe' : PEnv) : Prop := ∀ K : R3 α → PEnv → Prop, K (.ok x) pe' → p pe K
def EvS (p : PS) (pe : PEnv) (r : Flp) (pe' : PEnv) : Prop := ∀ K : Flp → PEnv → Prop, K r pe' → p pe K
def EvD (p : PD) (ps : List Sl) (r : R3 (Bool × P)) (ps' : List Sl) : Prop := ∀ K : R3 (Bool × P) → List Sl → Prop, K r ps' → p ps K
section
variable {α β : Type} {pe pe1 pe2 pe3 : PEnv} {p p1 p2 p3 : PM Opd} {o o1 o2 : Opd} {v w : P}
theorem Ev.b {p : PM α} {k : α → PM β} {x : α} {y : β} (h : Ev p pe x pe1) (h2 : Ev (k x) pe1 y pe2) : Ev (pb p k) pe y pe2 := fun K hK => h _ (h2 K hK)
theorem Ev.ite {t : PM Bool} {p q : PM α} {b : Bool} {x : α} (h : Ev t pe b pe1) (h1 : b = true → Ev p pe1 x pe2) (h2 : b = false → Ev q pe1 x pe2) : Ev (qIte t p q) pe x pe2 := fun K hK => h _ (by
  cases b with
  | true => exact h1 rfl K hK
  | false => exact h2 rfl K hK)
theorem ev_c {x : α} : Ev (qC x) pe x pe := fun K h => h
theorem ev_v {i : Nat} (h : pe[i]? = some (.sh v)) : Ev (qVar i) pe (.s v) pe := fun K hK => ev_var h hK
theorem ev_k {i : Nat} (h : pe[i]? = some (.ow v)) : Ev (qVar i) pe (.k i) pe := fun K hK => by
  unfold qVar
  rw [h]
  exact hK
theorem ev_kp {i : Nat} (h : pe[i]? = some (.pa v)) : Ev (qVar i) pe (.k i) pe := fun K hK => by
  unfold qVar
  rw [h]
  exact hK
theorem ev_opF {γ : Type} {q : Op γ} {u : γ} (h : q u = some (false, w)) : Ev (fun pe Q => qOp q (some u) pe Q) pe (.s w) pe := fun K hK => by
  show (match q u with | some (true, w) => _ | some (false, w) => _ | none => _)
  rw [h]
  exact hK
theorem ev_opT {γ : Type} {q : Op γ} {u : γ} (h : q u = some (true, w)) : Ev (fun pe Q => qOp q (some u) pe Q) pe (.o w) pe := fun K hK => by
  show (match q u with | some (true, w) => _ | some (false, w) => _ | none => _)
  rw [h]
  exact hK
theorem ev_U {q : Op P} (h : Ev p pe o pe1) (ho : opv pe1 o = some v) (hq : q v = some (false, w)) : Ev (qU q p) pe (.s w) pe1 := h.b fun K hK => by
  show qOp q (opv pe1 o) pe1 K
  rw [ho]
  exact ev_opF hq K hK
theorem ev_UT {q : Op P} (h : Ev p pe o pe1) (ho : opv pe1 o = some v) (hq : q v = some (true, w)) : Ev (qU q p) pe (.o w) pe1 := h.b fun K hK => by
  show qOp q (opv pe1 o) pe1 K
  rw [ho]
  exact ev_opT hq K hK
theorem ev_B {q : Op (P × P)} {u : P × P} (h1 : Ev p1 pe o1 pe1) (h2 : Ev p2 pe1 o2 pe2) (ho : opv2 pe2 o1 o2 = some u) (hq : q u = some (false, w)) : Ev (qB q p1 p2) pe (.s w) pe2 := h1.b (h2.b fun K hK => by
  show qOp q (opv2 pe2 o1 o2) pe2 K
  rw [ho]
  exact ev_opF hq K hK)
theorem ev_BT {q : Op (P × P)} {u : P × P} (h1 : Ev p1 pe o1 pe1) (h2 : Ev p2 pe1 o2 pe2) (ho : opv2 pe2 o1 o2 = some u) (hq : q u = some (true, w)) : Ev (qB q p1 p2) pe (.o w) pe2 := h1.b (h2.b fun K hK => by
  show qOp q (opv2 pe2 o1 o2) pe2 K
  rw [ho]
  exact ev_opT hq K hK)
/-- of shared values -/
theorem ev_BS {q : Op (P × P)} {v1 v2 : P} (h1 : Ev p1 pe (.s v1) pe1) (h2 : Ev p2 pe1 (.s v2) pe2) (hq : q (v1, v2) = some (false, w)) : Ev (qB q p1 p2) pe (.s w) pe2 := ev_B h1 h2 rfl hq
theorem ev_args {q : Op (List P)} {ps : PM (List Opd)} {os : List Opd} {vs : List P} (h : Ev ps pe os pe1) (ho : opvs pe1 os = some vs) (hq : q vs = some (false, w)) : Ev (qArgs q ps) pe (.s w) pe1 := h.b fun K hK => by
  show qOp q (opvs pe1 os) pe1 K
  rw [ho]
  exact ev_opF hq K hK
theorem ev_argsT {q : Op (List P)} {ps : PM (List Opd)} {os : List Opd} {vs : List P} (h : Ev ps pe os pe1) (ho : opvs pe1 os = some vs) (hq : q vs = some (true, w)) : Ev (qArgs q ps) pe (.o w) pe1 := h.b fun K hK => by
  show qOp q (opvs pe1 os) pe1 K
  rw [ho]
  exact ev_opT hq K hK
theorem ev_nil : Ev qNil pe [] pe := ev_c
theorem ev_cons {ps : PM (List Opd)} {os : List Opd} (h : Ev p pe o pe1) (h2 : Ev ps pe1 os pe2) : Ev (qCons p ps) pe (o :: os) pe2 := h.b (h2.b ev_c)
theorem ev_one (h : Ev p pe o pe1) : Ev (qCons p qNil) pe [o] pe1 := ev_cons h ev_nil
/-- one argument, shared -/
theorem ev_arg {q : Op (List P)} (h : Ev p pe (.s v) pe1) (hq : q [v] = some (false, w)) : Ev (qArgs q (qCons p qNil)) pe (.s w) pe1 := ev_args (ev_one h) rfl hq
theorem ev_tup {ps : PM (List Opd)} {os : List Opd} {vs : List P} (h : Ev ps pe os pe1) (hl : lkA os pe1 = some (vs, pe2)) (hs : vs.length ≤ sizeLine) : Ev (qTup ps) pe (.s (.tup vs)) pe2 := h.b fun K hK => by
  show (match lkA os pe1 with | some (vs, pe') => _ | none => _)
  rw [hl]
  exact ⟨hs, hK⟩
theorem ev_lst {ps : PM (List Opd)} {os : List Opd} {vs : List P} (h : Ev ps pe os pe1) (hl : lkA os pe1 = some (vs, pe2)) (hs : vs.length ≤ sizeLine) : Ev (qLst ps) pe (.o (.lst vs)) pe2 := h.b fun K hK => by
  show (match lkA os pe1 with | some (vs, pe') => _ | none => _)
  rw [hl]
  exact ⟨hs, hK⟩
theorem ev_T {b : Bool} (h : Ev p pe o pe1) (ho : opv pe1 o = some (.bl b)) : Ev (qT p) pe b pe1 := h.b fun K hK => by
  show (match opv pe1 o with | some (.bl b) => _ | _ => _)
  rw [ho]
  exact hK
theorem ev_TS {b : Bool} (h : Ev p pe (.s (.bl b)) pe1) : Ev (qT p) pe b pe1 := ev_T h rfl
theorem ev_not {t : PM Bool} {b : Bool} (h : Ev t pe b pe1) : Ev (qNot t) pe (!b) pe1 := h.b ev_c
theorem ev_and {s t : PM Bool} {a b : Bool} (h : Ev s pe a pe1) (h1 : a = true → Ev t pe1 b pe1) : Ev (qAnd s t) pe (a && b) pe1 := h.ite (fun e => by subst e; exact h1 rfl) fun e => by subst e; exact ev_c
theorem ev_or {s t : PM Bool} {a b : Bool} (h : Ev s pe a pe1) (h1 : a = false → Ev t pe1 b pe1) : Ev (qOr s t) pe (a || b) pe1 := h.ite (fun e => by subst e; exact ev_c) fun e => by subst e; exact h1 rfl
theorem ev_andV {a : Bool} {b : Bool} {q : PM Opd} (h : Ev p pe (.s (.bl a)) pe1) (h1 : a = true → Ev q pe1 (.s (.bl b)) pe1) : Ev (qAndV p q) pe (.s (.bl (a && b))) pe1 := (ev_TS h).ite (fun e => by subst e; exact h1 rfl) fun e => by subst e; exact ev_c
theorem ev_orV {a : Bool} {b : Bool} {q : PM Opd} (h : Ev p pe (.s (.bl a)) pe1) (h1 : a = false → Ev q pe1 (.s (.bl b)) pe1) : Ev (qOrV p q) pe (.s (.bl (a || b))) pe1 := (ev_TS h).ite (fun e => by subst e; exact ev_c) fun e => by subst e; exact h1 rfl
theorem ev_notV {a : Bool} (h : Ev p pe (.s (.bl a)) pe1) : Ev (qNotV p) pe (.s (.bl (!a))) pe1 := (ev_TS h).b ev_c
theorem ev_if {t : PM Bool} {b : Bool} (h : Ev t pe b pe1) (h1 : b = true → Ev p pe1 o pe2) (h2 : b = false → Ev p2 pe1 o pe2) : Ev (qIf t p p2) pe o pe2 := h.ite h1 h2
theorem ev_chain {q1 q2 : Op (P × P)} {v1 v2 v3 : P} {a b : Bool} (h1 : Ev p1 pe (.s v1) pe) (h2 : Ev p2 pe (.s v2) pe) (hq : q1 (v1, v2) = some (false, .bl a)) (h3 : a = true → Ev p3 pe (.s v3) pe ∧ q2 (v2, v3) = some (false, .bl b)) : Ev (qChain q1 q2 p1 p2 p3) pe (.s (.bl (a && b))) pe := h1.b (h2.b fun K hK => by
  show (match q1 (v1, v2) with
    | some (false, .bl true) => pb p3 (fun o3 pe2 Q2 => qOp q2 (opv2 pe2 (.s v2) o3) pe2 Q2) pe K
    | some (false, .bl false) => K (.ok (.s (.bl false))) pe
    | _ => False)
  rw [hq]
  cases a with
  | false => exact hK
  | true =>
    obtain ⟨k1, k2⟩ := h3 rfl
    exact (k1.b (k := fun o3 pe2 Q2 => qOp q2 (opv2 pe2 (.s v2) o3) pe2 Q2) (ev_opF k2)) K hK)
theorem ev_I {i : Int} (h : Ev p pe (.s (.int i)) pe1) : Ev (qI p) pe (some i) pe1 := h.b fun K hK => hK
theorem ev_sl {pl ph : PM (Option Int)} {l hh : Option Int} (h1 : Ev p pe o pe1) (h2 : Ev pl pe1 l pe2) (h3 : Ev ph pe2 hh pe3) (ho : opv pe3 o = some v) (hq : qSl (v, l, hh) = some (false, w)) : Ev (qSlice p pl ph) pe (.s w) pe3 := h1.b (h2.b (h3.b fun K hK => by
  show qOp qSl (match opv pe3 o with | some v => some (v, l, hh) | none => none) pe3 K
  rw [ho]
  exact ev_opF hq K hK))
theorem ev_slT {pl ph : PM (Option Int)} {l hh : Option Int} (h1 : Ev p pe o pe1) (h2 : Ev pl pe1 l pe2) (h3 : Ev ph pe2 hh pe3) (ho : opv pe3 o = some v) (hq : qSl (v, l, hh) = some (true, w)) : Ev (qSlice p pl ph) pe (.o w) pe3 := h1.b (h2.b (h3.b fun K hK => by
  show qOp qSl (match opv pe3 o with | some v => some (v, l, hh) | none => none) pe3 K
  rw [ho]
  exact ev_opT hq K hK))
/-! ### calls -/
theorem ev_call {n : Nat} {pd : PD} {ps : PM (List Opd)} {os : List Opd} {vs : List P} {sls : List Sl} (h : Ev ps pe os pe1) (hn : os.length = n) (hl : lkA os pe1 = some (vs, pe2)) (hd : EvD pd (vs.map .sh) (.ok (false, w)) sls) : Ev (qCall n pd ps) pe (.s w) pe2 := h.b fun K hK => by
  refine ⟨hn, ?_⟩
  show (match lkA os pe1 with | some (vs, pe1) => _ | none => _)
  rw [hl]
  exact hd _ hK
theorem ev_callT {n : Nat} {pd : PD} {ps : PM (List Opd)} {os : List Opd} {vs : List P} {sls : List Sl} (h : Ev ps pe os pe1) (hn : os.length = n) (hl : lkA os pe1 = some (vs, pe2)) (hd : EvD pd (vs.map .sh) (.ok (true, w)) sls) : Ev (qCall n pd ps) pe (.o w) pe2 := h.b fun K hK => by
  refine ⟨hn, ?_⟩
  show (match lkA os pe1 with | some (vs, pe1) => _ | none => _)
  rw [hl]
  exact hd _ hK
theorem ev_call1 {pd : PD} {sls : List Sl} (h : Ev p pe (.s v) pe1) (hd : EvD pd [.sh v] (.ok (false, w)) sls) : Ev (qCall 1 pd (qCons p qNil)) pe (.s w) pe1 := ev_call (ev_one h) rfl rfl hd
theorem ev_call2 {pd : PD} {v1 v2 : P} {sls : List Sl} (h1 : Ev p1 pe (.s v1) pe1) (h2 : Ev p2 pe1 (.s v2) pe2) (hd : EvD pd [.sh v1, .sh v2] (.ok (false, w)) sls) : Ev (qCall 2 pd (qCons p1 (qCons p2 qNil))) pe (.s w) pe2 := ev_call (ev_cons h1 (ev_one h2)) rfl rfl hd
theorem ev_call3 {pd : PD} {v1 v2 v3 : P} {sls : List Sl} (h1 : Ev p1 pe (.s v1) pe1) (h2 : Ev p2 pe1 (.s v2) pe2) (h3 : Ev p3 pe2 (.s v3) pe3) (hd : EvD pd [.sh v1, .sh v2, .sh v3] (.ok (false, w)) sls) : Ev (qCall 3 pd (qCons p1 (qCons p2 (qCons p3 qNil)))) pe (.s w) pe3 := ev_call (ev_cons h1 (ev_cons h2 (ev_one h3))) rfl rfl hd
/-! ### statements -/
theorem evS_seq {s t : PS} {r : Flp} (h : EvS s pe .nx pe1) (h2 : EvS t pe1 r pe2) : EvS (qSeq s t) pe r pe2 := fun K hK => h _ (h2 K hK)
/-- out at once -/
theorem evS_rt {s t : PS} {b : Bool} (h : EvS s pe (.rt b v) pe1) : EvS (qSeq s t) pe (.rt b v) pe1 := fun K hK => h _ hK
theorem evS_er {s t : PS} {c : Nat} (h : EvS s pe (.er c) pe1) : EvS (qSeq s t) pe (.er c) pe1 := fun K hK => h _ hK
theorem evS_e {p : PM α} {k : α → PS} {x : α} {r : Flp} (h : Ev p pe x pe1) (h2 : EvS (k x) pe1 r pe2) : EvS (qe p k) pe r pe2 := fun K hK => h _ (h2 K hK)
theorem evS_if {t : PM Bool} {s u : PS} {b : Bool} {r : Flp} (h : Ev t pe b pe1) (h1 : b = true → EvS s pe1 r pe2) (h2 : b = false → EvS u pe1 r pe2) : EvS (qIfS t s u) pe r pe2 := evS_e h fun K hK => by
  cases b with
  | true => exact h1 rfl K hK
  | false => exact h2 rfl K hK
theorem evS_ret (h : Ev p pe (.s v) pe1) : EvS (qRet p) pe (.rt false v) pe1 := evS_e h fun K hK => hK
theorem evS_retO (h : Ev p pe (.o v) pe1) : EvS (qRet p) pe (.rt true v) pe1 := evS_e h fun K hK => hK
theorem evS_drop {o : Opd} (h : Ev p pe o pe1) : EvS (qDrop p) pe .nx pe1 := evS_e h fun K hK => hK
theorem evS_set {i : Nat} {o : Opd} (h : Ev p pe o pe1) (ha : asg1 i o pe1 = some pe2) : EvS (qSet i p) pe .nx pe2 := evS_e h fun K hK => by
  show (match asg1 i o pe1 with | some pe' => _ | none => _)
  rw [ha]
  exact hK
/-- a guard: if it holds, v is returned -/
theorem evS_guard {t : PM Bool} {s u : PS} {b : Bool} {r : Flp} (h : Ev t pe b pe1) (h1 : b = true → EvS s pe1 r pe2 ∧ (r ≠ .nx)) (h2 : b = false → EvS u pe1 r pe2) : EvS (qSeq (qIfS t s qNop) u) pe r pe2 := fun K hK => h _ (by
  cases b with
  | true =>
    obtain ⟨k, kn⟩ := h1 rfl
    exact k _ (by
      cases r with
      | nx => exact absurd rfl kn
      | rt o v => exact hK
      | bk => exact hK
      | ct => exact hK
      | er c => exact hK)
  | false => exact h2 rfl K hK)
theorem evD_of {n : Nat} {body : PS} {ps : List Sl} {b : Bool} {v : P} {pe' : PEnv} (h : EvS body (ps ++ List.replicate (n - ps.length) .no) (.rt b v) pe') : EvD (pdOf n body) ps (.ok (b, v)) (mrg ps pe') := fun K hK => h _ hK
theorem evD_nx {n : Nat} {body : PS} {ps : List Sl} {pe' : PEnv} (h : EvS body (ps ++ List.replicate (n - ps.length) .no) .nx pe') : EvD (pdOf n body) ps (.ok (false, .non)) (mrg ps pe') := fun K hK => h _ hK
theorem evD_er {n : Nat} {body : PS} {ps : List Sl} {c : Nat} {pe' : PEnv} (h : EvS body (ps ++ List.replicate (n - ps.length) .no) (.er c) pe') : EvD (pdOf n body) ps (.er c) (mrg ps pe') := fun K hK => h _ hK
/-! ### comprehensions that change nothing -/
theorem ev_over {f : P → Option (List P)} {xs : List P} (h : Ev p pe o pe1) (hl : lk1 o pe1 = some (v, pe2)) (hf : f v = some xs) : Ev (qOver f p) pe xs pe2 := h.b fun K hK => by
  show (match lk1 o pe1 with | some (v, pe') => _ | none => _)
  rw [hl]
  show (match f v with | some vs => _ | none => _)
  rw [hf]
  exact hK
theorem ev_overA {f : List P → Option (List P)} {ps : PM (List Opd)} {os : List Opd} {vs xs : List P} (h : Ev ps pe os pe1) (hl : lkA os pe1 = some (vs, pe2)) (hf : f vs = some xs) : Ev (qOverA f ps) pe xs pe2 := h.b fun K hK => by
  show (match lkA os pe1 with | some (vs, pe') => _ | none => _)
  rw [hl]
  show (match f vs with | some vs => _ | none => _)
  rw [hf]
  exact hK
theorem ev_lc {n : Nat} {vs : List Nat} {ps : PM (List P)} {t : T5} {qt : PM Bool} {qe : PM Opd} {items : List P} (G : P → Bool) (F : P → P) (hi : Ev ps pe items pe1) (hn : items.length < n) (hz : items.length ≤ sizeLine) (hp : noPa pe1 vs = true) (hr : restP pe1 (wipeP pe1 vs) vs = pe2)
    (h : ∀ x ∈ items, ∃ pe3, t x (wipeP pe1 vs) = some pe3 ∧ wipeP pe3 vs = wipeP pe1 vs ∧ Ev qt pe3 (G x) pe3 ∧ (G x = true → Ev qe pe3 (.s (F x)) pe3)) : Ev (qLc n vs ps t qt qe) pe (.o (.lst ((items.filter G).map F))) pe2 := hi.b fun K hK => by
  refine ⟨hn, hp, loopQ_mapM G F items [] (fun x hx => ?_) (by simpa using hz) (by rw [List.nil_append, hr]; exact hK)⟩
  obtain ⟨pe3, h1, h2, h3, h4⟩ := h x hx
  exact ⟨pe3, h1, h2, h3, h4⟩
theorem pbls_map (F : P → Bool) : ∀ l : List P, pbls (l.map fun x => .bl (F x)) = some (l.map F)
  | [] => rfl
  | x :: l => by
    show (match pbls (l.map fun x => .bl (F x)) with | some is => some (F x :: is) | none => none) = _
    rw [pbls_map F l]
    rfl
/-- all([F(x) for x in items]) -/
theorem ev_allC {n : Nat} {vs : List Nat} {ps : PM (List P)} {t : T5} {qe : PM Opd} {items : List P} (F : P → Bool) (hi : Ev ps pe items pe1) (hn : items.length < n) (hz : items.length ≤ sizeLine) (hp : noPa pe1 vs = true) (hr : restP pe1 (wipeP pe1 vs) vs = pe2)
    (h : ∀ x ∈ items, ∃ pe3, t x (wipeP pe1 vs) = some pe3 ∧ wipeP pe3 vs = wipeP pe1 vs ∧ Ev qe pe3 (.s (.bl (F x))) pe3) : Ev (qArgs qAll (qCons (qLc n vs ps t (qC true) qe) qNil)) pe (.s (.bl (items.all F))) pe2 := by
  refine ev_args (ev_one (ev_lc (fun _ => true) (fun x => .bl (F x)) hi hn hz hp hr fun x hx => ?_)) rfl ?_
  · obtain ⟨pe3, h1, h2, h3⟩ := h x hx
    exact ⟨pe3, h1, h2, ev_c, fun _ => h3⟩
  · rw [show items.filter (fun _ => true) = items from filter_all items]
    show (match pbls (items.map fun x => .bl (F x)) with | some bs => some (false, P.bl (bs.all id)) | none => none) = _
    rw [pbls_map]
    show some (false, P.bl ((items.map F).all id)) = _
    rw [List.all_map]
    rfl
end
end S3

set_option maxHeartbeats 4000000
/-! S6C: what a term over values may give. -/
namespace S3
open PySem PyProof.Rows L2
def EvN {α : Type} (p : PM α) (pe : PEnv) (Φ : α → PEnv → Prop) : Prop := ∀ K : R3 α → PEnv → Prop, (∀ x pe', Φ x pe' → K (.ok x) pe') → p pe K
def EvSN (p : PS) (pe : PEnv) (Φ : Flp → PEnv → Prop) : Prop := ∀ K : Flp → PEnv → Prop, (∀ r pe', Φ r pe' → K r pe') → p pe K
def EvDN (p : PD) (ps : List Sl) (Φ : Bool × P → List Sl → Prop) : Prop := ∀ K : R3 (Bool × P) → List Sl → Prop, (∀ r ps', Φ r ps' → K (.ok r) ps') → p ps K
section
variable {α β : Type} {pe pe1 pe2 : PEnv} {p p1 p2 : PM Opd} {Φ : α → PEnv → Prop} {Ψ : β → PEnv → Prop} {F G : Opd → PEnv → Prop} {S T : Flp → PEnv → Prop}
theorem Ev.n {p : PM α} {x : α} (h : Ev p pe x pe1) (q : Φ x pe1) : EvN p pe Φ := fun K hK => h K (hK _ _ q)
theorem EvN.mono {p : PM α} {Φ' : α → PEnv → Prop} (h : EvN p pe Φ) (k : ∀ x pe', Φ x pe' → Φ' x pe') : EvN p pe Φ' := fun K hK => h K fun x pe' q => hK x pe' (k x pe' q)
theorem EvN.b {p : PM α} {k : α → PM β} (h : EvN p pe Φ) (h2 : ∀ x pe1, Φ x pe1 → EvN (k x) pe1 Ψ) : EvN (pb p k) pe Ψ := fun K hK => h _ fun x pe1 hx => h2 x pe1 hx K hK
theorem evn_c {x : α} (h : Φ x pe) : EvN (qC x) pe Φ := fun K hK => hK _ _ h
theorem evn_op {γ : Type} {q : Op γ} {u : γ} {w : P} {b : Bool} (h : q u = some (b, w)) (hF : F (if b then .o w else .s w) pe) : EvN (fun pe Q => qOp q (some u) pe Q) pe F := fun K hK => by
  show (match q u with | some (true, w) => _ | some (false, w) => _ | none => _)
  rw [h]
  cases b with
  | true => exact hK _ _ hF
  | false => exact hK _ _ hF
theorem evn_cons {ps : PM (List Opd)} {A : List Opd → PEnv → Prop} (h : EvN p pe F) (h2 : ∀ o pe1, F o pe1 → EvN ps pe1 fun os pe2 => A (o :: os) pe2) : EvN (qCons p ps) pe A := h.b fun o pe1 ho => (h2 o pe1 ho).b fun os pe2 hos => evn_c hos
theorem evn_nil {A : List Opd → PEnv → Prop} (h : A [] pe) : EvN qNil pe A := evn_c h
theorem evn_B {q : Op (P × P)} (h1 : EvN p1 pe F) (h2 : ∀ o1 pe1, F o1 pe1 → EvN p2 pe1 fun o2 pe2 => ∃ u b w, opv2 pe2 o1 o2 = some u ∧ q u = some (b, w) ∧ G (if b = true then .o w else .s w) pe2) : EvN (qB q p1 p2) pe G := h1.b fun o1 pe1 ho => (h2 o1 pe1 ho).b fun o2 pe2 ⟨u, b, w, e1, e2, e3⟩ K hK => by
  show qOp q (opv2 pe2 o1 o2) pe2 K
  rw [e1]
  exact evn_op e2 e3 K hK
theorem evn_args {q : Op (List P)} {ps : PM (List Opd)} (h : EvN ps pe fun os pe1 => ∃ vs b w, opvs pe1 os = some vs ∧ q vs = some (b, w) ∧ G (if b = true then .o w else .s w) pe1) : EvN (qArgs q ps) pe G := h.b fun os pe1 ⟨vs, b, w, e1, e2, e3⟩ K hK => by
  show qOp q (opvs pe1 os) pe1 K
  rw [e1]
  exact evn_op e2 e3 K hK
theorem evn_tup {ps : PM (List Opd)} (h : EvN ps pe fun os pe1 => ∃ vs pe2, lkA os pe1 = some (vs, pe2) ∧ vs.length ≤ sizeLine ∧ G (.s (.tup vs)) pe2) : EvN (qTup ps) pe G := h.b fun os pe1 ⟨vs, pe2, e1, e2, e3⟩ K hK => by
  show (match lkA os pe1 with | some (vs, pe') => _ | none => _)
  rw [e1]
  exact ⟨e2, hK _ _ e3⟩
theorem evn_over {f : P → Option (List P)} {L : List P → PEnv → Prop} (h : EvN p pe fun o pe1 => ∃ v pe2 xs, lk1 o pe1 = some (v, pe2) ∧ f v = some xs ∧ L xs pe2) : EvN (qOver f p) pe L := h.b fun o pe1 ⟨v, pe2, xs, e1, e2, e3⟩ K hK => by
  show (match lk1 o pe1 with | some (v, pe') => _ | none => _)
  rw [e1]
  show (match f v with | some vs => _ | none => _)
  rw [e2]
  exact hK _ _ e3
theorem evn_overA {f : List P → Option (List P)} {ps : PM (List Opd)} {L : List P → PEnv → Prop} (h : EvN ps pe fun os pe1 => ∃ vs pe2 xs, lkA os pe1 = some (vs, pe2) ∧ f vs = some xs ∧ L xs pe2) : EvN (qOverA f ps) pe L := h.b fun o pe1 ⟨v, pe2, xs, e1, e2, e3⟩ K hK => by
  show (match lkA o pe1 with | some (v, pe') => _ | none => _)
  rw [e1]
  show (match f v with | some vs => _ | none => _)
  rw [e2]
  exact hK _ _ e3
def outO : Bool × P → Opd
  | (true, v) => .o v
  | (false, v) => .s v
/-- a call that lends its first argument -/
theorem evn_callL {n : Nat} {pd : PD} {ps : PM (List Opd)} (h : EvN ps pe fun os pe1 => ∃ i os' vs pe2 u, os = .k i :: os' ∧ os.length = n ∧ lkA os' pe1 = some (vs, pe2) ∧ ownv pe2 i = some u ∧ EvDN pd (.pa u :: vs.map Sl.sh) fun r sls => ∃ u' rest, sls = .pa u' :: rest ∧ F (outO r) (mutS pe2 i u')) : EvN (qCallL n pd ps) pe F := h.b fun os pe1 ⟨i, os', vs, pe2, u, e0, en, e1, e2, e3⟩ K hK => by
  subst e0
  refine ⟨en, ?_⟩
  show (match lkA os' pe1 with | some (vs, pe1) => _ | none => _)
  rw [e1]
  show (match ownv pe2 i with | some u => _ | none => _)
  rw [e2]
  refine e3 _ fun r sls ⟨u', rest, e4, e5⟩ => ?_
  subst e4
  show K (outD (.ok r)) (mutS pe2 i u')
  have : outD (.ok r) = .ok (outO r) := by
    obtain ⟨b, v⟩ := r
    cases b <;> rfl
  rw [this]
  exact hK _ _ e5
theorem evn_call {n : Nat} {pd : PD} {ps : PM (List Opd)} (h : EvN ps pe fun os pe1 => ∃ vs pe2, os.length = n ∧ lkA os pe1 = some (vs, pe2) ∧ EvDN pd (vs.map Sl.sh) fun r _ => F (outO r) pe2) : EvN (qCall n pd ps) pe F := h.b fun os pe1 ⟨vs, pe2, en, e1, e3⟩ K hK => by
  refine ⟨en, ?_⟩
  show (match lkA os pe1 with | some (vs, pe1) => _ | none => _)
  rw [e1]
  refine e3 _ fun r sls e5 => ?_
  show K (outD (.ok r)) pe2
  have : outD (.ok r) = .ok (outO r) := by
    obtain ⟨b, v⟩ := r
    cases b <;> rfl
  rw [this]
  exact hK _ _ e5
theorem EvD.n {pd : PD} {ps ps' : List Sl} {r : Bool × P} {D : Bool × P → List Sl → Prop} (h : EvD pd ps (.ok r) ps') (q : D r ps') : EvDN pd ps D := fun K hK => h K (hK _ _ q)
theorem EvDN.mono {pd : PD} {ps : List Sl} {D D' : Bool × P → List Sl → Prop} (h : EvDN pd ps D) (k : ∀ x pe', D x pe' → D' x pe') : EvDN pd ps D' := fun K hK => h K fun x pe' q => hK x pe' (k x pe' q)
/-- one number drawn -/
theorem evn_take {i : Nat} {b : Nat} {n : Int} (h : Ev (qVar i) pe (.k i) pe) (hp : Ev p pe (.s (.int n)) pe) (ho : ownv pe i = some (.drw b)) (h0 : 0 < n) (h1 : n < 1073741824) (hb : 0 < b) (hF : ∀ k : Int, 0 ≤ k → k < n → F (.s (.int k)) (mutS pe i (.drw (b - 1)))) : EvN (qCallL 2 pd_take (qCons (qVar i) (qCons p qNil))) pe F :=
  evn_callL ((ev_cons h (ev_one hp)).n ⟨i, _, [.int n], pe, .drw b, rfl, rfl, rfl, ho, fun K hK => ⟨h0, h1, hb, fun k k0 k1 => hK _ _ ⟨_, _, rfl, hF k k0 k1⟩⟩⟩)
/-! ### comprehensions -/
theorem loopQ_inv {t : T5} {qe : PM Opd} {vs : List Nat} {Q : List P → PEnv → Prop} (I : List P → List P → PEnv → Prop) (hs : ∀ x xs acc pe, I (x :: xs) acc pe → ∃ pe1, t x pe = some pe1 ∧ EvN qe pe1 fun o pe3 => ∃ v pe4, lk1 o pe3 = some (v, pe4) ∧ I xs (acc ++ [v]) (wipeP pe4 vs)) (he : ∀ acc pe, I [] acc pe → Q acc pe) : ∀ (items acc : List P) (pe : PEnv), acc.length + items.length ≤ sizeLine → I items acc pe → loopQ t (qC true) qe vs items acc pe Q
  | [], acc, pe, hl, hi => he acc pe hi
  | x :: xs, acc, pe, hl, hi => by
    obtain ⟨pe1, e1, hq⟩ := hs x xs acc pe hi
    show (match t x pe with | some pe1 => _ | none => False)
    rw [e1]
    show qe pe1 _
    refine hq _ fun o pe3 ⟨v, pe4, e2, h2⟩ => ?_
    show (match lk1 o pe3 with | some (v, pe4) => _ | none => False)
    rw [e2]
    exact ⟨by simp at hl; omega, loopQ_inv I hs he xs (acc ++ [v]) (wipeP pe4 vs) (by simp at hl ⊢; omega) h2⟩
theorem evn_lc {n : Nat} {vs : List Nat} {ps : PM (List P)} {t : T5} {qe : PM Opd} {items : List P} (I : List P → List P → PEnv → Prop) (hi : Ev ps pe items pe1) (hn : items.length < n) (hz : items.length ≤ sizeLine) (hp : noPa pe1 vs = true) (h0 : I items [] (wipeP pe1 vs)) (hs : ∀ x xs acc pe, I (x :: xs) acc pe → ∃ pe1, t x pe = some pe1 ∧ EvN qe pe1 fun o pe3 => ∃ v pe4, lk1 o pe3 = some (v, pe4) ∧ I xs (acc ++ [v]) (wipeP pe4 vs)) (he : ∀ acc pe, I [] acc pe → F (.o (.lst acc)) (restP pe1 pe vs)) : EvN (qLc n vs ps t (qC true) qe) pe F := fun K hK => hi _ ⟨hn, hp, loopQ_inv I hs (fun acc pe h => hK _ _ (he acc pe h)) items [] _ (by simpa using hz) h0⟩
/-! ### statements -/
theorem EvS.n {s : PS} {r : Flp} (h : EvS s pe r pe1) (q : S r pe1) : EvSN s pe S := fun K hK => h K (hK _ _ q)
theorem EvSN.mono {s : PS} (h : EvSN s pe S) (k : ∀ x pe', S x pe' → T x pe') : EvSN s pe T := fun K hK => h K fun x pe' q => hK x pe' (k x pe' q)
theorem evsn_e {p : PM α} {k : α → PS} (h : EvN p pe Φ) (h2 : ∀ x pe1, Φ x pe1 → EvSN (k x) pe1 S) : EvSN (S3.qe p k) pe S := fun K hK => h _ fun x pe1 hx => h2 x pe1 hx K hK
/-- one statement after the other, the first going on -/
theorem evsn_seq {s t : PS} {M : PEnv → Prop} (h : EvSN s pe fun r pe1 => r = .nx ∧ M pe1) (h2 : ∀ pe1, M pe1 → EvSN t pe1 S) : EvSN (qSeq s t) pe S := fun K hK => h _ fun r pe1 ⟨e, hm⟩ => by
  subst e
  exact h2 pe1 hm K hK
theorem evsn_ret (h : EvN p pe fun o pe1 => (∃ v, o = .s v ∧ S (.rt false v) pe1) ∨ ∃ v, o = .o v ∧ S (.rt true v) pe1) : EvSN (qRet p) pe S := evsn_e h fun o pe1 ho K hK => by
  rcases ho with ⟨v, rfl, q⟩ | ⟨v, rfl, q⟩
  · exact hK _ _ q
  · exact hK _ _ q
theorem evsn_set {i : Nat} (h : EvN p pe fun o pe1 => ∃ pe2, asg1 i o pe1 = some pe2 ∧ S .nx pe2) : EvSN (qSet i p) pe S := evsn_e h fun o pe1 ⟨pe2, e, q⟩ K hK => by
  show (match asg1 i o pe1 with | some pe' => _ | none => _)
  rw [e]
  exact hK _ _ q
theorem evsn_drop (h : EvN p pe fun _ pe1 => S .nx pe1) : EvSN (qDrop p) pe S := evsn_e h fun o pe1 q K hK => hK _ _ q
theorem evsn_for {n : Nat} {ps : PM (List P)} {t : T5} {body : PS} {items : List P} (I : List P → PEnv → Prop) (hi : Ev ps pe items pe1) (hn : items.length < n) (h0 : I items pe1) (hs : ∀ x xs pe, I (x :: xs) pe → ∃ pe1, t x pe = some pe1 ∧ EvSN body pe1 fun r pe2 => r = .nx ∧ I xs pe2) (he : ∀ pe, I [] pe → S .nx pe) : EvSN (qFor n ps t body) pe S := fun K hK => hi _ ⟨hn, loopP_cps I (fun x xs pe h => by
  obtain ⟨pe1, e1, h1⟩ := hs x xs pe h
  exact ⟨pe1, e1, fun K k1 _ _ _ _ => h1 K fun r pe2 ⟨e, q⟩ => e ▸ k1 pe2 q⟩) (fun pe h => hK _ _ (he pe h)) items pe1 h0⟩
theorem evsn_while {n m : Nat} {t : PM Bool} {body : PS} (I : Nat → PEnv → Prop) (hm : m < n) (h0 : I m pe) (hs : ∀ m pe, I m pe → EvN t pe fun b pe1 => (b = true ∧ EvSN body pe1 fun r pe2 => r = .nx ∧ ∃ j, j < m ∧ I j pe2) ∨ (b = false ∧ S .nx pe1)) : EvSN (qWhile t body n) pe S := fun K hK => while_cps I (fun m pe h K1 k1 k2 => hs m pe h K1 fun b pe1 hb => by
  rcases hb with ⟨rfl, hb⟩ | ⟨rfl, hb⟩
  · exact k1 pe1 fun K2 g1 _ _ _ _ => hb K2 fun r pe2 ⟨e, j, hj, q⟩ => e ▸ g1 j pe2 hj q
  · exact k2 pe1 (hK _ _ hb)) n m pe hm h0
theorem evdn_of {n : Nat} {body : PS} {ps : List Sl} {D : Bool × P → List Sl → Prop} (h : EvSN body (ps ++ List.replicate (n - ps.length) .no) fun r pe' => (∃ b v, r = .rt b v ∧ D (b, v) (mrg ps pe'))) : EvDN (pdOf n body) ps D := fun K hK => h _ fun r pe' ⟨b, v, e, q⟩ => by
  subst e
  exact hK _ _ q
theorem qMethK_n {m : Mt} {i : Nat} {q : PM (List Opd)} {us0 : List P} (h0 : ownv pe i = some (.lst us0)) (h : EvN q pe fun os pe1 => ∃ vs pe2 us us' w, lkA os pe1 = some (vs, pe2) ∧ ownv pe2 i = some (.lst us) ∧ m us vs = some (us', w) ∧ F (.s w) (mutS pe2 i (.lst us'))) : EvN (qMethK m i q) pe F := fun K hK => ⟨us0, h0, h _ fun os pe1 ⟨vs, pe2, us, us', w, e1, e2, e3, e4⟩ => by
  show (match lkA os pe1 with | some (vs, pe2) => _ | none => _)
  rw [e1]
  show (match ownv pe2 i with | some (.lst us) => _ | _ => _)
  rw [e2]
  show (match m us vs with | some (us', w) => _ | none => _)
  rw [e3]
  exact hK _ _ e4⟩
theorem evn_meth {m : Mt} {i : Nat} {q : PM (List Opd)} {us0 : List P} (hv : Ev (qVar i) pe (.k i) pe) (h0 : ownv pe i = some (.lst us0)) (h : EvN q pe fun os pe1 => ∃ vs pe2 us us' w, lkA os pe1 = some (vs, pe2) ∧ ownv pe2 i = some (.lst us) ∧ m us vs = some (us', w) ∧ F (.s w) (mutS pe2 i (.lst us'))) : EvN (qMeth m (qVar i) q) pe F := (hv.n (Φ := fun o pe1 => o = .k i ∧ pe1 = pe) ⟨rfl, rfl⟩).b fun o pe1 ⟨e1, e2⟩ => by
  subst e1 e2
  exact qMethK_n h0 h
end
/-! ### places -/
theorem atI_nat {α : Type} {l : List α} {i : Nat} {x : α} (h : l[i]? = some x) : L2.atI l (i : Int) = some x := by
  have hl : i < l.length := (List.getElem?_eq_some_iff.mp h).1
  unfold L2.atI
  have : L2.ixN l.length (i : Int) = some i := by
    simp [L2.ixN]
    try omega
  rw [this]
  exact h
theorem qIx_tup {xs : List P} {i : Nat} {x : P} (h : xs[i]? = some x) : qIx (.tup xs, .int i) = some (false, x) := by
  show (match L2.atI xs (i : Int) with | some d => some (false, d) | none => none) = _
  rw [atI_nat h]
theorem qIx_lst {xs : List P} {i : Nat} {x : P} (h : xs[i]? = some x) : qIx (.lst xs, .int i) = some (false, x) := by
  show (match L2.atI xs (i : Int) with | some d => some (false, d) | none => none) = _
  rw [atI_nat h]
/-! ### texts shown -/
theorem strOk_app {a b : Str} (h : PyData.strOk a = true) (k : PyData.strOk b = true) : PyData.strOk (a ++ b) = true := by
  unfold PyData.strOk at h k ⊢
  show (a.cps ++ b.cps).all _ = true
  rw [Array.all_append, h, k]
  rfl
theorem len_app {a b : Str} : (a ++ b).length = a.length + b.length := strLen_append a b
/-- short texts of good signs -/
def Sh (n : Nat) (x : Str) : Prop := PyData.strOk x = true ∧ x.length ≤ n
theorem Sh.app {a b : Str} {n m : Nat} (h : Sh n a) (k : Sh m b) : Sh (n + m) (a ++ b) := ⟨strOk_app h.1 k.1, by rw [len_app]; exact Nat.add_le_add h.2 k.2⟩
theorem Sh.le {a : Str} {n m : Nat} (h : Sh n a) (k : n ≤ m) : Sh m a := ⟨h.1, Nat.le_trans h.2 k⟩
theorem sh_join {n : Nat} : ∀ {ts : List Str}, (∀ t ∈ ts, Sh n t) → Sh ((n + 2) * ts.length) (Str.join ", " ts)
  | [], _ => ⟨by decide +kernel, Nat.le_trans (by decide +kernel : (Str.join ", " []).length ≤ 0) (Nat.zero_le _)⟩
  | [x], h => (h x (by simp)).le (by simp)
  | x :: y :: r, h => by
    have ih := sh_join (ts := y :: r) fun t ht => h t (List.mem_cons_of_mem _ ht)
    have hx := h x (by simp)
    have hs : Sh 2 (", " : Str) := ⟨by decide +kernel, by decide +kernel⟩
    exact ((hx.app hs).app ih).le (by rw [List.length_cons (a := x), Nat.mul_succ]; omega)
theorem sh_from {n : Nat} : ∀ {ts : List Str} {acc : Str} {a : Nat}, (∀ t ∈ ts, Sh n t) → ∀ k, Sh a acc → Sh (a + (n + 2) * ts.length) (textFrom k acc ts)
  | [], acc, a, _, k, h => h.le (by simp)
  | x :: r, acc, a, h, k, ha => by
    have hx := h x (by simp)
    have hs : Sh 2 (", " : Str) := ⟨by decide +kernel, by decide +kernel⟩
    have h0 : Sh 2 (if k > 0 then ", " else "" : String) := by
      split <;> exact ⟨by decide +kernel, by decide +kernel⟩
    have := sh_from (ts := r) (fun t ht => h t (List.mem_cons_of_mem _ ht)) (k + 1) ((ha.app h0).app hx)
    refine Sh.le (n := a + 2 + n + (n + 2) * r.length) this ?_
    rw [List.length_cons, Nat.mul_succ]
    omega
theorem shownAll_map (l : List PyData) : PyData.shownAll l = l.map PyData.shown := by
  induction l with
  | nil => rfl
  | cons a l ih =>
    show PyData.shown a :: PyData.shownAll l = _
    rw [ih]
    rfl
structure Rp (v : P) (n k : Nat) (d : PyData) : Prop where
  dat : ∀ m, k ≤ m → pdat m v = some d
  lay : d.canLay0 = true
  dep : d.depth ≤ k
  shw : d.showable = true
  dic : d.hasDict = false
  sh : Sh n d.shown
theorem Rp.le {v : P} {n k n' k' : Nat} {d : PyData} (h : Rp v n k d) (hn : n ≤ n') (hk : k ≤ k') : Rp v n' k' d := ⟨fun m hm => h.dat m (by omega), h.lay, Nat.le_trans h.dep hk, h.shw, h.dic, h.sh.le hn⟩
theorem rp_int {i : Int} {n : Nat} (h1 : (PyData.int i).showable = true) (h : Sh n (PyData.int i).shown) : Rp (.int i) n 1 (.int i) := ⟨fun m hm => by
  cases m with
  | zero => omega
  | succ m => rfl, rfl, by simp [PyData.depth], h1, rfl, h⟩
theorem rp_str {x : Str} {n : Nat} (h1 : PyData.strOk x = true) (h : Sh n (PyData.str x).shown) : Rp (.str x) n 1 (.str x) := ⟨fun m hm => by
  cases m with
  | zero => omega
  | succ m => rfl, by simpa [PyData.canLay0] using h1, by simp [PyData.depth], rfl, rfl, h⟩
structure RpA (vs : List P) (n k : Nat) (ds : List PyData) : Prop where
  dat : ∀ m, k ≤ m → mapO (pdat m) vs = some ds
  lay : PyData.canLayAll0 ds = true
  dep : PyData.depthAll ds ≤ k
  shw : PyData.showableAll ds = true
  dic : PyData.hasDictAll ds = false
  sh : ∀ t ∈ PyData.shownAll ds, Sh n t
  len : ds.length = vs.length
theorem rpA_of {n k : Nat} : ∀ {vs : List P}, (∀ v ∈ vs, ∃ d, Rp v n k d) → ∃ ds, RpA vs n k ds
  | [], _ => ⟨[], fun m _ => rfl, rfl, Nat.zero_le _, rfl, rfl, by simp [PyData.shownAll], rfl⟩
  | v :: vs, h => by
    obtain ⟨d, hd⟩ := h v (by simp)
    obtain ⟨ds, hs⟩ := rpA_of (vs := vs) fun x hx => h x (List.mem_cons_of_mem _ hx)
    refine ⟨d :: ds, fun m hm => ?_, ?_, ?_, ?_, ?_, ?_, by simp [hs.len]⟩
    · unfold mapO
      rw [hd.dat m hm, hs.dat m hm]
    · simp only [PyData.canLayAll0, hd.lay, hs.lay, Bool.and_self]
    · have h1 := hd.dep
      have h2 := hs.dep
      simp only [PyData.depthAll]
      omega
    · simp only [PyData.showableAll, hd.shw, hs.shw, Bool.and_self]
    · simp only [PyData.hasDictAll, hd.dic, hs.dic, Bool.or_self]
    · intro t ht
      simp only [PyData.shownAll, List.mem_cons] at ht
      rcases ht with rfl | ht
      · exact hd.sh
      · exact hs.sh t ht
theorem rp_tup {n k : Nat} {vs : List P} (h : ∀ v ∈ vs, ∃ d, Rp v n k d) : ∃ d, Rp (.tup vs) ((n + 2) * vs.length + 3) (k + 1) d := by
  obtain ⟨ds, hs⟩ := rpA_of h
  refine ⟨.tuple ds, fun m hm => ?_, ?_, ?_, ?_, ?_, ?_⟩
  · cases m with
    | zero => omega
    | succ m =>
      unfold pdat
      rw [hs.dat m (by omega)]
  · simpa only [PyData.canLay0] using hs.lay
  · have := hs.dep
    simp only [PyData.depth]
    omega
  · simpa only [PyData.showable] using hs.shw
  · simpa only [PyData.hasDict] using hs.dic
  · have e : (PyData.tuple ds).shown = tupleText (PyData.shownAll ds) := by simp only [PyData.shown]
    rw [e]
    have hj := sh_join hs.sh
    have hlen : (PyData.shownAll ds).length = vs.length := by rw [shownAll_map, List.length_map, hs.len]
    rw [hlen] at hj
    have h1 : Sh 1 ("(" : Str) := ⟨by decide +kernel, by decide +kernel⟩
    have h2 : Sh 2 (if (PyData.shownAll ds).length == 1 then ",)" else ")" : String) := by
      split <;> exact ⟨by decide +kernel, by decide +kernel⟩
    exact ((h1.app hj).app h2).le (by omega)
theorem rp_lst {n k : Nat} {vs : List P} (h : ∀ v ∈ vs, ∃ d, Rp v n k d) : ∃ d, Rp (.lst vs) ((n + 2) * vs.length + 2) (k + 1) d := by
  obtain ⟨ds, hs⟩ := rpA_of h
  refine ⟨.list ds, fun m hm => ?_, ?_, ?_, ?_, ?_, ?_⟩
  · cases m with
    | zero => omega
    | succ m =>
      unfold pdat
      rw [hs.dat m (by omega)]
  · simpa only [PyData.canLay0] using hs.lay
  · have := hs.dep
    simp only [PyData.depth]
    omega
  · simpa only [PyData.showable] using hs.shw
  · simpa only [PyData.hasDict] using hs.dic
  · have e : (PyData.list ds).shown = listText (PyData.shownAll ds) := by simp only [PyData.shown]
    rw [e]
    have hlen : (PyData.shownAll ds).length = vs.length := by rw [shownAll_map, List.length_map, hs.len]
    have h1 : Sh 1 ("[" : Str) := ⟨by decide +kernel, by decide +kernel⟩
    have h2 : Sh 1 ("]" : Str) := ⟨by decide +kernel, by decide +kernel⟩
    have hj := sh_from (n := n) hs.sh 0 h1
    rw [hlen] at hj
    exact (hj.app h2).le (by omega)
theorem Rp.dat64 {v : P} {n k : Nat} {d : PyData} (h : Rp v n k d) (hk : k ≤ 64) : pdat64 v = some d := by
  unfold pdat64
  rw [h.dat 66 (by omega)]
  have : SeqAt.shaped d = true := by
    unfold SeqAt.shaped
    rw [h.lay, decide_eq_true (Nat.le_trans h.dep hk)]
    rfl
  exact if_pos this
theorem Rp.repr {v : P} {n k : Nat} {d : PyData} (h : Rp v n k d) (hk : k ≤ 60) (hn : n ≤ 16777216) (hr : refP v = true) : qRepr [v] = some (false, .str d.shown) := by
  show (match pdat64 v with | some d => _ | none => none) = _
  rw [h.dat64 (by omega)]
  exact if_pos ⟨hr, h.shw, h.dic, Nat.le_trans h.dep hk, Nat.le_trans h.sh.2 hn⟩
end S3

set_option maxHeartbeats 4000000
/-! S6D: more of what terms may give; the draws' own choices. -/
namespace S3
open PySem PyProof.Rows L2
section
variable {pe pe1 pe2 : PEnv} {p p1 p2 : PM Opd} {F G : Opd → PEnv → Prop} {S T : Flp → PEnv → Prop}
theorem evn_BE {q : Op (P × P)} {o1 : Opd} (h1 : Ev p1 pe o1 pe1) (h2 : EvN p2 pe1 fun o2 pe2 => ∃ u b w, opv2 pe2 o1 o2 = some u ∧ q u = some (b, w) ∧ G (if b = true then .o w else .s w) pe2) : EvN (qB q p1 p2) pe G := evn_B (F := fun o pe' => o = o1 ∧ pe' = pe1) (h1.n ⟨rfl, rfl⟩) fun o pe' ⟨e1, e2⟩ => by
  subst e1 e2
  exact h2
theorem evn_consE {ps : PM (List Opd)} {A : List Opd → PEnv → Prop} {o : Opd} (h : Ev p pe o pe1) (h2 : EvN ps pe1 fun os pe2 => A (o :: os) pe2) : EvN (qCons p ps) pe A := evn_cons (F := fun o' pe' => o' = o ∧ pe' = pe1) (h.n ⟨rfl, rfl⟩) fun o' pe' ⟨e1, e2⟩ => by
  subst e1 e2
  exact h2
theorem evn_one {A : List Opd → PEnv → Prop} (h : EvN p pe fun o pe1 => A [o] pe1) : EvN (qCons p qNil) pe A := evn_cons h fun o pe1 ho => evn_nil ho
theorem evn_lcN {n : Nat} {vs : List Nat} {ps : PM (List P)} {t : T5} {qe : PM Opd} (hi : EvN ps pe fun items pe1 => items.length < n ∧ items.length ≤ sizeLine ∧ noPa pe1 vs = true ∧ ∃ I : List P → List P → PEnv → Prop, I items [] (wipeP pe1 vs) ∧ (∀ x xs acc pe, I (x :: xs) acc pe → ∃ pe1, t x pe = some pe1 ∧ EvN qe pe1 fun o pe3 => ∃ v pe4, lk1 o pe3 = some (v, pe4) ∧ I xs (acc ++ [v]) (wipeP pe4 vs)) ∧ ∀ acc pe, I [] acc pe → F (.o (.lst acc)) (restP pe1 pe vs)) : EvN (qLc n vs ps t (qC true) qe) pe F := fun K hK => hi _ fun items pe1 ⟨hn, hz, hp, I, h0, hs, he⟩ => ⟨hn, hp, loopQ_inv I hs (fun acc pe h => hK _ _ (he acc pe h)) items [] _ (by simpa using hz) h0⟩
theorem evS_par {is : List Nat} {ps : PM (List Opd)} {os os' : List Opd} {pe3 : PEnv} (h : Ev ps pe os pe1) (h1 : calm5 os pe1 = some (os', pe2)) (h2 : asgs is os' pe2 = some pe3) : EvS (qPar is ps) pe .nx pe3 := evS_e h fun K hK => by
  show (match calm5 os pe1 with | some (os', pe1) => _ | none => _)
  rw [h1]
  show (match asgs is os' pe2 with | some pe' => _ | none => _)
  rw [h2]
  exact hK
theorem evsn_par {is : List Nat} {ps : PM (List Opd)} (h : EvN ps pe fun os pe1 => ∃ os' pe2 pe3, calm5 os pe1 = some (os', pe2) ∧ asgs is os' pe2 = some pe3 ∧ S .nx pe3) : EvSN (qPar is ps) pe S := evsn_e h fun os pe1 ⟨os', pe2, pe3, e1, e2, q⟩ K hK => by
  show (match calm5 os pe1 with | some (os', pe1) => _ | none => _)
  rw [e1]
  show (match asgs is os' pe2 with | some pe' => _ | none => _)
  rw [e2]
  exact hK _ _ q
/-- an own name returned -/
theorem evsn_retO {i : Nat} {v : P} (h : pe[i]? = some (.ow v)) (q : S (.rt true v) (pe.set i .no)) : EvSN (qRet (qVar i)) pe S := evsn_e ((ev_k h).n (Φ := fun o pe' => o = .k i ∧ pe' = pe) ⟨rfl, rfl⟩) fun o pe' ⟨e1, e2⟩ K hK => by
  subst e1 e2
  show qRetK i pe' K
  unfold qRetK
  rw [h]
  exact hK _ _ q
theorem evsn_seqE {s t : PS} (h : EvS s pe .nx pe1) (h2 : EvSN t pe1 S) : EvSN (qSeq s t) pe S := fun K hK => h _ (h2 K hK)
theorem tV_ok {i : Nat} {v : P} {s : Sl} (h : pe[i]? = some s) (hn : ∀ w, s ≠ .pa w) : tV i v pe = some (pe.set i (.sh v)) := by
  unfold tV
  rw [h]
  cases s with
  | pa w => exact absurd rfl (hn w)
  | _ => rfl
theorem cut_take {α : Type} (xs : List α) (m : Nat) : cut3 xs none (some (m : Int)) = xs.take m := by
  unfold cut3
  rw [HT.sIx_none, HT.sIx_nat]
  simp [List.take_eq_take_iff]
end
theorem big_sz {n : Nat} (h : n ≤ 10000) : n ≤ sizeLine := Nat.le_trans h (by decide)
theorem big_lp {n : Nat} (h : n ≤ 1000) : n < loopN := Nat.lt_of_le_of_lt h (by decide)
/-! ### pick -/
def qqPick : PS := qRet (qB qIx (qVar 1) (qCallL 2 pd_take (qCons (qVar 0) (qCons (qArgs qLen (qCons (qVar 1) qNil)) qNil))))
theorem pick5 {b : Nat} {xs : List P} (hb : 0 < b) (h0 : 0 < xs.length) (h1 : xs.length < 1000000) : EvDN (pdOf 2 qqPick) [.pa (.drw b), .sh (.lst xs)] fun r sls => (r.1 = false ∧ r.2 ∈ xs) ∧ sls = [.pa (.drw (b - 1)), .sh (.lst xs)] := by
  refine evdn_of (evsn_ret ?_)
  refine evn_BE (o1 := .s (.lst xs)) (pe1 := [.pa (.drw b), .sh (.lst xs)]) (fun K h => h) ?_
  refine evn_take (b := b) (n := xs.length) (fun K h => h) (ev_arg (v := .lst xs) (fun K h => h) rfl) rfl (by omega) (by omega) hb fun k k0 k1 => ?_
  have hk : k.toNat < xs.length := by omega
  have e : k = ((k.toNat : Nat) : Int) := by omega
  refine ⟨(.lst xs, .int k), false, xs[k.toNat], rfl, ?_, .inl ⟨_, rfl, false, _, rfl, ⟨rfl, List.getElem_mem hk⟩, rfl⟩⟩
  have h2 := qIx_lst (List.getElem?_eq_getElem hk)
  rw [← e] at h2
  exact h2
/-! ### shuffled -/
def qqShuf : PS := qSeq (qPar [2, 3] (qCons (qArgs qList (qCons (qVar 1) qNil)) (qCons (qLst qNil) qNil)))
    (qSeq (qWhile (qT (qB qNe (qVar 2) (qLst qNil)))
    (qDrop (qMeth mApp (qVar 3) (qCons (qMeth mPopAt (qVar 2) (qCons (qCallL 2 pd_take (qCons (qVar 0) (qCons (qArgs qLen (qCons (qVar 2) qNil)) qNil))) qNil)) qNil))) loopN)
    (qRet (qVar 3)))
theorem ne_nil {xs : List P} {n k : Nat} (h : ∀ v ∈ xs, ∃ d, Rp v n k d) (hk : k ≤ 60) : qNe (.lst xs, .lst []) = some (false, .bl (!xs.isEmpty)) := by
  obtain ⟨ds, hs⟩ := rpA_of h
  obtain ⟨d0, h0⟩ := rp_lst (n := n) (k := k) (vs := []) (by simp)
  have e1 : pdat64 (.lst xs) = some (.list ds) := by
    unfold pdat64
    have : pdat 66 (.lst xs) = some (.list ds) := by
      unfold pdat
      rw [hs.dat 65 (by omega)]
    rw [this]
    have hd := hs.dep
    have : SeqAt.shaped (.list ds) = true := by
      unfold SeqAt.shaped
      rw [decide_eq_true (by simp only [PyData.depth]; omega), Bool.and_true]
      simpa only [PyData.canLay0] using hs.lay
    exact if_pos this
  have e2 : pdat64 (.lst []) = some (.list []) := by kernel_rfl
  unfold qNe
  dsimp only
  rw [e1, e2]
  have hl := hs.len
  cases xs with
  | nil =>
    cases ds with
    | nil => simp [PyData.eqv, PyData.eqvAll]
    | cons _ _ => simp at hl
  | cons _ _ =>
    cases ds with
    | nil => simp at hl
    | cons _ _ => simp [PyData.eqv, PyData.eqvAll]
theorem shuf5 {b n k : Nat} {xs : List P} (hx : ∀ v ∈ xs, ∃ d, Rp v n k d) (hk : k ≤ 60) (hb : xs.length < b) (h1 : xs.length ≤ 1000) : EvDN (pdOf 4 qqShuf) [.pa (.drw b), .sh (.lst xs)] fun r sls => ∃ ys b', r = (true, .lst ys) ∧ ys.Perm xs ∧ b ≤ b' + xs.length ∧ sls = [.pa (.drw b'), .sh (.lst xs)] := by
  refine evdn_of ?_
  show EvSN qqShuf [.pa (.drw b), .sh (.lst xs), .no, .no] _
  refine evsn_seqE (pe1 := [.pa (.drw b), .sh (.lst xs), .ow (.lst xs), .ow (.lst [])]) (evS_par (ev_cons (ev_argsT (ev_one (ev_v (v := .lst xs) rfl)) rfl rfl) (ev_one (ev_lst (vs := []) ev_nil rfl (Nat.zero_le _)))) rfl rfl) ?_
  refine evsn_seq (M := fun pe => ∃ ys b', pe = [.pa (.drw b'), .sh (.lst xs), .ow (.lst []), .ow (.lst ys)] ∧ ys.Perm xs ∧ b ≤ b' + xs.length) ?_ ?_
  · refine evsn_while (m := xs.length) (fun m pe => ∃ left found b', pe = [.pa (.drw b'), .sh (.lst xs), .ow (.lst left), .ow (.lst found)] ∧ left.length = m ∧ (found ++ left).Perm xs ∧ b ≤ b' + found.length) (big_lp h1) ⟨xs, [], b, rfl, rfl, by simp, by simp⟩ ?_
    rintro m pe ⟨left, found, b', rfl, hm, hp, hb'⟩
    have hlen : found.length + left.length = xs.length := by
      have := hp.length_eq
      rw [List.length_append] at this
      exact this
    refine Ev.n (ev_T (ev_B (ev_k (v := .lst left) rfl) (ev_lst (vs := []) ev_nil rfl (Nat.zero_le _)) rfl (ne_nil (fun v hv => hx v (hp.mem_iff.mp (by simp [hv]))) hk)) rfl) ?_
    cases left with
    | nil => exact .inr ⟨rfl, rfl, found, b', rfl, by simpa using hp, by simp at hlen; omega⟩
    | cons y r =>
      refine .inl ⟨rfl, ?_⟩
      have hl0 : found.length + (r.length + 1) = xs.length := by simpa using hlen
      refine evsn_drop (evn_meth (us0 := found) (ev_k rfl) rfl (evn_one (evn_meth (us0 := y :: r) (ev_k rfl) rfl (evn_one (evn_take (b := b') (n := (y :: r).length) (ev_kp rfl) (ev_args (ev_one (ev_k (v := .lst (y :: r)) rfl)) rfl rfl) rfl ?_ ?_ ?_ fun j j0 j1 => ?_)))))
      · show (0 : Int) < ((r.length + 1 : Nat) : Int)
        omega
      · show ((r.length + 1 : Nat) : Int) < 1073741824
        omega
      · omega
      · have hj : j.toNat < (y :: r).length := by omega
        have e : j = ((j.toNat : Nat) : Int) := by omega
        have hpop : mPopAt (y :: r) [.int j] = some ((y :: r).eraseIdx j.toNat, (y :: r)[j.toNat]) := by
          have hsz : (y :: r).length ≤ 1000 := by simp; omega
          show (if -(2 ^ 63) ≤ j ∧ j < 2 ^ 63 then _ else none) = _
          rw [if_pos (by omega)]
          have : seqIndex? j (y :: r).length = some j.toNat := by
            unfold seqIndex?
            simp only [List.length_cons] at hj j1 ⊢
            split <;> first | omega | (simp; try omega)
          rw [this]
          show (match (y :: r)[j.toNat]? with | some y' => _ | none => none) = _
          simp only [List.getElem?_eq_getElem hj]
        refine ⟨_, _, y :: r, _, _, rfl, rfl, hpop, [(y :: r)[j.toNat]], _, found, found ++ [(y :: r)[j.toNat]], .non, rfl, rfl, ?_, rfl, r.length, by simp at hm; omega, (y :: r).eraseIdx j.toNat, found ++ [(y :: r)[j.toNat]], b' - 1, rfl, ?_, ?_, by simp; omega⟩
        · show (if found.length < sizeLine then _ else none) = _
          rw [if_pos (Nat.lt_of_le_of_lt (by omega : found.length ≤ 1000) (by decide))]
        · rw [List.length_eraseIdx_of_lt hj]
          rfl
        · rw [List.append_assoc]
          exact (List.Perm.append_left found (erase_perm hj)).trans hp
  · rintro pe ⟨ys, b', rfl, hp, hb'⟩
    exact evsn_retO (v := .lst ys) rfl ⟨true, _, rfl, ys, b', rfl, hp, hb', rfl⟩
end S3

set_option maxHeartbeats 4000000
namespace L_k01
open PySem PySem.Spec PyProof.Rows L2 S3
/-- which class lies under which: 0 BoughError, 1 BadPlace, 2 BadWood -/
def clsNo (i : Nat) : Nat := if i < 3 then i else 0
def tab (i j : Nat) : Bool := (([[true, false, false], [true, true, false], [true, false, true]] : List (List Bool)).getD (clsNo i) []).getD (clsNo j) false
abbrev ks_KEPT : List Str := ["again", "all", "apart", "bare", "below", "both", "closed", "either", "every", "finite", "first", "left", "not", "often", "one", "right", "road", "root", "same", "some", "sub", "thread"]
abbrev k_KEPT : List D := ks_KEPT.map D.str
abbrev Nl_p_within_0 : List Str := ["node", "wood"]
/-- is_name: 0 thing, 1 letter -/
def f_p_is_name : FS := (fSeq (fIfS (fOr (fNot (bnd (fArgs oIsi (fCons (fVar 0) (fCons (ret3 (.ty "str")) fNil))) asB)) (fOr (fNot (bnd (fChain oLe oLe (ret3 (.int 1)) (fArgs oLen (fCons (fVar 0) fNil)) (ret3 (.int 8))) asB)) (bnd (fB (oIn false) (fVar 0) (ret3 (.tcon k_KEPT))) asB)))
    (fRet (ret3 (.bl false)))
    fNop)
    (fRet (fArgs oAll (fCons (fLc loopN [1] (fOverS (fVar 0)) (gVar 1) (ret3 true) (fB (oInS false) (fVar 1) (ret3 (.str "abcdefghijklmnopqrstuvwxyz")))) fNil))))
def d_p_is_name : FD := fdOf 2 f_p_is_name
/-- are_names: 0 thing, 1 one, 2 other, 3 name -/
def f_p_are_names : FS := (fSeq (fIfS (fOr (fNot (bnd (fArgs oIsi (fCons (fVar 0) (fCons (ret3 (.ty "tuple")) fNil))) asB)) (fNot (bnd (fArgs oAll (fCons (fLc loopN [3] (fOverT (fVar 0)) (gVar 3) (ret3 true) (fCall 1 d_p_is_name (fCons (fVar 3) fNil))) fNil)) asB)))
    (fRet (ret3 (.bl false)))
    fNop)
    (fRet (fArgs oAll (fCons (fLc loopN [1, 2] (fOverZ (fCons (fVar 0) (fCons (fSl (fVar 0) (bnd (ret3 (.int 1)) asI) (ret3 none)) fNil))) (gTup3 2 (gCons3 (gVar 1) (gCons3 (gVar 2) gNil3))) (ret3 true) (fB oLt (fVar 1) (fVar 2))) fNil))))
def d_p_are_names : FD := fdOf 4 f_p_are_names
/-- is_scope: 0 thing -/
def f_p_is_scope : FS := (fRet (fAndV (fCall 1 d_p_are_names (fCons (fVar 0) fNil)) (fB oLe (fArgs oLen (fCons (fVar 0) fNil)) (ret3 (.int 3)))))
def d_p_is_scope : FD := fdOf 1 f_p_is_scope
/-- is_number: 0 thing, 1 end -/
def f_p_is_number : FS := (fRet (fAndV (fArgs oIsi (fCons (fVar 0) (fCons (ret3 (.ty "int")) fNil))) (fAndV (fNotV (fArgs oIsi (fCons (fVar 0) (fCons (ret3 (.ty "bool")) fNil)))) (fChain oLe oLt (ret3 (.int 0)) (fVar 0) (fVar 1)))))
def d_p_is_number : FD := fdOf 2 f_p_is_number
/-- is_node: 0 thing, 1 scope, 2 many, 3 name -/
def f_p_is_node : FS := (fSeq (fIfS (fOr (fNot (bnd (fArgs oIsi (fCons (fVar 0) (fCons (ret3 (.ty "tuple")) fNil))) asB)) (fOr (bnd (fB oNe (fArgs oLen (fCons (fVar 0) fNil)) (ret3 (.int 3))) asB) (fNot (bnd (fCall 1 d_p_are_names (fCons (fB oIx (fVar 0) (ret3 (.int 0))) fNil)) asB))))
    (fRet (ret3 (.bl false)))
    fNop)
    (fRet (fAndV (fArgs oAll (fCons (fLc loopN [3] (fOverT (fB oIx (fVar 0) (ret3 (.int 0)))) (gVar 3) (ret3 true) (fB (oIn false) (fVar 3) (fVar 1))) fNil)) (fAndV (fCall 2 d_p_is_number (fCons (fB oIx (fVar 0) (ret3 (.int 1))) (fCons (fVar 2) fNil))) (fCall 2 d_p_is_number (fCons (fB oIx (fVar 0) (ret3 (.int 2))) (fCons (fVar 2) fNil)))))))
def d_p_is_node : FD := fdOf 4 f_p_is_node
/-- is_wood: 0 thing, 1 node -/
def f_p_is_wood : FS := (fSeq (fIfS (fOr (fNot (bnd (fArgs oIsi (fCons (fVar 0) (fCons (ret3 (.ty "tuple")) fNil))) asB)) (fOr (bnd (fB oNe (fArgs oLen (fCons (fVar 0) fNil)) (ret3 (.int 3))) asB) (fOr (fNot (bnd (fArgs oIsi (fCons (fB oIx (fVar 0) (ret3 (.int 0))) (fCons (ret3 (.ty "str")) fNil))) asB)) (bnd (fB oNe (fB oIx (fVar 0) (ret3 (.int 0))) (ret3 (.str "wood"))) asB))))
    (fRet (ret3 (.bl false)))
    fNop)
    (fSeq (fIfS (fOr (fNot (bnd (fCall 1 d_p_is_scope (fCons (fB oIx (fVar 0) (ret3 (.int 1))) fNil)) asB)) (fOr (fNot (bnd (fArgs oIsi (fCons (fB oIx (fVar 0) (ret3 (.int 2))) (fCons (ret3 (.ty "tuple")) fNil))) asB)) (fNot (bnd (fChain oLe oLe (ret3 (.int 1)) (fArgs oLen (fCons (fB oIx (fVar 0) (ret3 (.int 2))) fNil)) (ret3 (.int 400))) asB))))
    (fRet (ret3 (.bl false)))
    fNop)
    (fRet (fArgs oAll (fCons (fLc loopN [1] (fOverT (fB oIx (fVar 0) (ret3 (.int 2)))) (gVar 1) (ret3 true) (fCall 3 d_p_is_node (fCons (fVar 1) (fCons (fB oIx (fVar 0) (ret3 (.int 1))) (fCons (fArgs oLen (fCons (fB oIx (fVar 0) (ret3 (.int 2))) fNil)) fNil))))) fNil)))))
def d_p_is_wood : FD := fdOf 2 f_p_is_wood
/-- need_wood: 0 wood -/
def f_p_need_wood : FS := (fIfS (fNot (bnd (fCall 1 d_p_is_wood (fCons (fVar 0) fNil)) asB))
    (fun env st => some (.er 2, env, st))
    fNop)
def d_p_need_wood : FD := fdOf 1 f_p_need_wood
/-- is_place: 0 thing, 1 way -/
def f_p_is_place : FS := (fRet (fAndV (fArgs oIsi (fCons (fVar 0) (fCons (ret3 (.ty "tuple")) fNil))) (fArgs oAll (fCons (fLc loopN [1] (fOverT (fVar 0)) (gVar 1) (ret3 true) (fCall 2 d_p_is_number (fCons (fVar 1) (fCons (ret3 (.int 2)) fNil)))) fNil))))
def d_p_is_place : FD := fdOf 2 f_p_is_place
/-- need_place: 0 place -/
def f_p_need_place : FS := (fIfS (fNot (bnd (fCall 1 d_p_is_place (fCons (fVar 0) fNil)) asB))
    (fun env st => some (.er 1, env, st))
    fNop)
def d_p_need_place : FD := fdOf 1 f_p_need_place
/-- node_told: 0 wood, 1 place, 2 node, 3 way -/
def f_p_node_told : FS := (fSeq (fAsg (ret3 (.int 0)) (gVar 2))
    (fSeq (fFor loopN (fOverT (fVar 1)) (gVar 3)
    (fAsg (fB oIx (fB oIx (fB oIx (fVar 0) (ret3 (.int 2))) (fVar 2)) (fB oAdd (ret3 (.int 1)) (fVar 3))) (gVar 2)))
    (fRet (fVar 2))))
def d_p_node_told : FD := fdOf 4 f_p_node_told
/-- node_at: 0 wood, 1 place -/
def f_p_node_at : FS := (fSeq (fDrop (fCall 1 d_p_need_wood (fCons (fVar 0) fNil)))
    (fSeq (fDrop (fCall 1 d_p_need_place (fCons (fVar 1) fNil)))
    (fRet (fCall 2 d_p_node_told (fCons (fVar 0) (fCons (fVar 1) fNil))))))
def d_p_node_at : FD := fdOf 2 f_p_node_at
/-- numbered: 0 scope, 1 first, 2 row_of, 3 line, 4 numbers, 5 rows, 6 letter, 7 left, 8 right, 9 key -/
def f_p_numbered (r : FD) : FS := (fSeq (fAsg (fArgs oLst (fCons (fVar 1) fNil)) (gVar 3))
    (fSeq (fAsg (fDisp (fPair (fVar 1) (ret3 (.int 0)) fPairNil)) (gVar 4))
    (fSeq (fAsg (fArgs oLst fNil) (gVar 5))
    (fSeq (fWhile (bnd (fB oLt (fArgs oLen (fCons (fVar 5) fNil)) (fArgs oLen (fCons (fVar 3) fNil))) asB)
    (fSeq (fAsg (fCall 1 r (fCons (fB oIx (fVar 3) (fArgs oLen (fCons (fVar 5) fNil))) fNil)) (gTup3 3 (gCons3 (gVar 6) (gCons3 (gVar 7) (gCons3 (gVar 8) gNil3)))))
    (fSeq (fFor loopN (fOverT (fArgs oTup (fCons (fVar 7) (fCons (fVar 8) fNil)))) (gVar 9)
    (fIfS (bnd (fB (oDin true) (fVar 9) (fVar 4)) asB)
    (fSeq (fAsg (fArgs oLen (fCons (fVar 3) fNil)) (gSub3 (fVar 4) (fVar 9)))
    (fDrop (fMeth oApp (fVar 3) (fCons (fVar 9) fNil))))
    fNop))
    (fDrop (fMeth oApp (fVar 5) (fCons (fArgs oTup (fCons (fVar 6) (fCons (fB oDget (fVar 4) (fVar 7)) (fCons (fB oDget (fVar 4) (fVar 8)) fNil)))) fNil))))) loopN)
    (fRet (fArgs oTup (fCons (ret3 (.str "wood")) (fCons (fVar 0) (fCons (fArgs oTuple (fCons (fVar 5) fNil)) fNil)))))))))
def d_p_numbered (r : FD) : FD := fdOf 10 (f_p_numbered r)
/-- within: 0 wood, 1 place -/
def f_p_within : FS := (fSeq (fDrop (fCall 1 d_p_need_wood (fCons (fVar 0) fNil)))
    (fSeq (fDrop (fCall 1 d_p_need_place (fCons (fVar 1) fNil)))
    (fRet (fCallLm 2 [0] d_p_numbered (fdLam Nl_p_within_0 (fB oIx (fB oIx (fVar 1) (ret3 (.int 2))) (fVar 0))) (fCons (fB oIx (fVar 0) (ret3 (.int 1))) (fCons (fCall 2 d_p_node_told (fCons (fVar 0) (fCons (fVar 1) fNil))) fNil))))))
def d_p_within : FD := fdOf 2 f_p_within
def ft_p_node_at_p_within : FTab := fun i => match i with
  | 0 => some (2, d_p_node_at)
  | 1 => some (2, d_p_within)
  | _ => none
/-- _law_begun: 0 _law_script, 1 _law_wide, 2 _law_grain -/
abbrev f_begun : FS := S3.fr_begun
abbrev d_begun : FD := S3.dr_begun
/-- _law_mixed: 0 _law_draw, 1 _law_turn, 2 _law_found, 3 _law_prime, 4 _law_blend, 5 _law_grain -/
abbrev f_mixed : FS := S3.fr_mixed
abbrev d_mixed : FD := S3.dr_mixed
/-- _law_take: 0 _law_draw, 1 _law_many, 2 _law_found -/
abbrev f_take : FS := S3.fr_take
abbrev d_take : FD := S3.dr_take
/-- _law_pick: 0 _law_draw, 1 _law_some -/
abbrev f_pick : FS := S3.fr_pick
abbrev d_pick : FD := S3.dr_pick
/-- _law_shuffled: 0 _law_draw, 1 _law_some, 2 _law_left, 3 _law_found -/
abbrev f_shuffled : FS := S3.fr_shuffled
abbrev d_shuffled : FD := S3.dr_shuffled
/-- _law_names: 0 _law_draw, 1 _law_many, 2 _law_some, 3 _law_one, 4 _law_stem, 5 _law_other -/
def f_names : FS := (fSeq (fAsg (fArgs oLst fNil) (gVar 2))
    (fSeq (fFor loopN (fOverS (ret3 (.str "bcdfghklmnprstvwxz"))) (gVar 3)
    (fAsg (fB oAdd (fVar 2) (fLc loopN [5] (fOverS (ret3 (.str "aeiou"))) (gVar 5) (ret3 true) (fB oAdd (fVar 3) (fVar 5)))) (gVar 2)))
    (fRet (fLc loopN [4] (fOverL (fSl (fCall 2 d_shuffled (fCons (fVar 0) (fCons (fVar 2) fNil))) (ret3 none) (bnd (fVar 1) asI))) (gVar 4) (ret3 true) (fB oAdd (fVar 4) (fCall 2 d_pick (fCons (fVar 0) (fCons (fArgs oLst (fCons (ret3 (.str "q")) (fCons (ret3 (.str "k")) (fCons (ret3 (.str "x")) (fCons (ret3 (.str "mu")) fNil))))) fNil))))))))
def d_names : FD := fdOf 6 f_names
/-- _law_scope: 0 _law_draw, 1 _law_most -/
def f_scope : FS := (fRet (fArgs oTuple (fCons (fArgs oSortedS (fCons (fCall 2 d_names (fCons (fVar 0) (fCons (fCall 2 d_take (fCons (fVar 0) (fCons (fB oAdd (fVar 1) (ret3 (.int 1))) fNil))) fNil))) fNil)) fNil)))
def d_scope : FD := fdOf 2 f_scope
/-- _law_letters: 0 _law_scope_here, 1 _law_found, 2 _law_name, 3 _law_letter -/
def f_letters : FS := (fSeq (fAsg (fArgs oLst (fCons (fArgs oTup fNil) fNil)) (gVar 1))
    (fSeq (fFor loopN (fOverT (fVar 0)) (gVar 2)
    (fAsg (fB oAdd (fVar 1) (fLc loopN [3] (fOverL (fVar 1)) (gVar 3) (ret3 true) (fB oAdd (fVar 3) (fArgs oTup (fCons (fVar 2) fNil))))) (gVar 1)))
    (fRet (fVar 1))))
def d_letters : FD := fdOf 4 f_letters
/-- _law_wood: 0 _law_draw, 1 _law_scope_here, 2 _law_most, 3 _law_many, 4 _law_marks, 5 _law_rows, 6 _law_k -/
def f_wood : FS := (fSeq (fAsg (fArgs oTup (fCons (fB oAdd (ret3 (.int 1)) (fCall 2 d_take (fCons (fVar 0) (fCons (fVar 2) fNil)))) (fCons (fCall 1 d_letters (fCons (fVar 1) fNil)) fNil))) (gTup3 2 (gCons3 (gVar 3) (gCons3 (gVar 4) gNil3))))
    (fSeq (fAsg (fLc loopN [6] (fOverR (fCons (fVar 3) fNil)) (gVar 6) (ret3 true) (fArgs oTup (fCons (fCall 2 d_pick (fCons (fVar 0) (fCons (fVar 4) fNil))) (fCons (fCall 2 d_take (fCons (fVar 0) (fCons (fVar 3) fNil))) (fCons (fCall 2 d_take (fCons (fVar 0) (fCons (fVar 3) fNil))) fNil))))) (gVar 5))
    (fRet (fArgs oTup (fCons (ret3 (.str "wood")) (fCons (fVar 1) (fCons (fArgs oTuple (fCons (fVar 5) fNil)) fNil)))))))
def d_wood : FD := fdOf 7 f_wood
/-- _law_at: 0 _law_wood_here, 1 _law_place_here, 2 _law_node, 3 _law_way -/
def f_at : FS := (fSeq (fAsg (ret3 (.int 0)) (gVar 2))
    (fSeq (fFor loopN (fOverT (fVar 1)) (gVar 3)
    (fAsg (fB oIx (fB oIx (fB oIx (fVar 0) (ret3 (.int 2))) (fVar 2)) (fB oAdd (ret3 (.int 1)) (fVar 3))) (gVar 2)))
    (fRet (fVar 2))))
def d_at : FD := fdOf 4 f_at
/-- _law_numbered: 0 _law_scope_here, 1 _law_first, 2 _law_rows, 3 _law_line, 4 _law_numbers, 5 _law_done, 6 _law_letter, 7 _law_left, 8 _law_right, 9 _law_key -/
def f_numbered : FS := (fSeq (fPar [3, 4, 5] (fCons (fArgs oLst (fCons (fVar 1) fNil)) (fCons (fDisp (fPair (fVar 1) (ret3 (.int 0)) fPairNil)) (fCons (fArgs oLst fNil) fNil))))
    (fSeq (fWhile (bnd (fB oLt (fArgs oLen (fCons (fVar 5) fNil)) (fArgs oLen (fCons (fVar 3) fNil))) asB)
    (fSeq (fAsg (fB oIx (fVar 2) (fB oIx (fVar 3) (fArgs oLen (fCons (fVar 5) fNil)))) (gTup3 3 (gCons3 (gVar 6) (gCons3 (gVar 7) (gCons3 (gVar 8) gNil3)))))
    (fSeq (fFor loopN (fOverL (fArgs oLst (fCons (fVar 7) (fCons (fVar 8) fNil)))) (gVar 9)
    (fIfS (bnd (fB (oDin true) (fVar 9) (fVar 4)) asB)
    (fSeq (fAsg (fArgs oLen (fCons (fVar 3) fNil)) (gSub3 (fVar 4) (fVar 9)))
    (fDrop (fMeth oApp (fVar 3) (fCons (fVar 9) fNil))))
    fNop))
    (fDrop (fMeth oApp (fVar 5) (fCons (fArgs oTup (fCons (fVar 6) (fCons (fB oDget (fVar 4) (fVar 7)) (fCons (fB oDget (fVar 4) (fVar 8)) fNil)))) fNil))))) loopN)
    (fRet (fArgs oTup (fCons (ret3 (.str "wood")) (fCons (fVar 0) (fCons (fArgs oTuple (fCons (fVar 5) fNil)) fNil)))))))
def d_numbered : FD := fdOf 10 f_numbered
/-- _law_place: 0 _law_draw, 1 _law_most, 2 _law_k -/
def f_place : FS := (fRet (fArgs oTuple (fCons (fLc loopN [2] (fOverR (fCons (fCall 2 d_take (fCons (fVar 0) (fCons (fB oAdd (fVar 1) (ret3 (.int 1))) fNil))) fNil)) (gVar 2) (ret3 true) (fCall 2 d_take (fCons (fVar 0) (fCons (ret3 (.int 2)) fNil)))) fNil)))
def d_place : FD := fdOf 3 f_place
/-- _law_bad_wood: 0 _law_draw, 1 _law_one, 2 _law_some -/
def f_bad_wood : FS := (fSeq (fAsg (fArgs oTup (fCons (fArgs oTup fNil) (fCons (ret3 (.int 0)) (fCons (ret3 (.int 0)) fNil)))) (gVar 1))
    (fSeq (fAsg (fArgs oLst (fCons (ret3 .non) (fCons (ret3 (.int 5)) (fCons (ret3 (.str "wood")) (fCons (fArgs oTup (fCons (ret3 (.str "wood")) (fCons (fArgs oTup fNil) fNil))) (fCons (fArgs oTup (fCons (ret3 (.str "wood")) (fCons (fArgs oTup fNil) (fCons (fArgs oTup fNil) fNil)))) (fCons (fArgs oTup (fCons (ret3 (.str "wood")) (fCons (fArgs oTup fNil) (fCons (fArgs oTup (fCons (fArgs oTup (fCons (fArgs oTup fNil) (fCons (ret3 (.int 0)) (fCons (ret3 (.int 1)) fNil)))) fNil)) fNil)))) (fCons (fArgs oTup (fCons (ret3 (.str "wood")) (fCons (fArgs oTup fNil) (fCons (fArgs oLst (fCons (fVar 1) fNil)) fNil)))) (fCons (fArgs oTup (fCons (ret3 (.str "wood")) (fCons (fArgs oTup (fCons (ret3 (.str "a")) (fCons (ret3 (.str "a")) fNil))) (fCons (fArgs oTup (fCons (fVar 1) fNil)) fNil)))) fNil))))))))) (gVar 2))
    (fSeq (fAsg (fB oAdd (fVar 2) (fArgs oLst (fCons (fArgs oTup (fCons (ret3 (.str "wood")) (fCons (fArgs oTup (fCons (ret3 (.str "b")) (fCons (ret3 (.str "a")) fNil))) (fCons (fArgs oTup (fCons (fVar 1) fNil)) fNil)))) (fCons (fArgs oTup (fCons (ret3 (.str "wood")) (fCons (fArgs oTup (fCons (ret3 (.str "a")) (fCons (ret3 (.str "b")) (fCons (ret3 (.str "c")) (fCons (ret3 (.str "d")) fNil))))) (fCons (fArgs oTup (fCons (fVar 1) fNil)) fNil)))) (fCons (fArgs oTup (fCons (ret3 (.str "wood")) (fCons (fArgs oTup (fCons (ret3 (.str "a")) fNil)) (fCons (fArgs oTup (fCons (fArgs oTup (fCons (fArgs oTup (fCons (ret3 (.str "b")) fNil)) (fCons (ret3 (.int 0)) (fCons (ret3 (.int 0)) fNil)))) fNil)) fNil)))) fNil))))) (gVar 2))
    (fSeq (fAsg (fB oAdd (fVar 2) (fArgs oLst (fCons (fArgs oTup (fCons (ret3 (.str "wood")) (fCons (fArgs oTup fNil) (fCons (fArgs oTup (fCons (fArgs oTup (fCons (ret3 (.int 0)) (fCons (ret3 (.int 0)) fNil))) fNil)) fNil)))) (fCons (fArgs oTup (fCons (ret3 (.str "wood")) (fCons (fArgs oTup fNil) (fCons (fArgs oTup (fCons (fArgs oTup (fCons (fArgs oTup fNil) (fCons (ret3 (.int 0)) (fCons (ret3 (.bl true)) fNil)))) fNil)) fNil)))) (fCons (fArgs oTup (fCons (ret3 (.str "woods")) (fCons (fArgs oTup fNil) (fCons (fArgs oTup (fCons (fVar 1) fNil)) fNil)))) (fCons (fArgs oLst (fCons (ret3 (.str "wood")) (fCons (fArgs oTup fNil) (fCons (fArgs oTup (fCons (fVar 1) fNil)) fNil)))) (fCons (fArgs oTup (fCons (ret3 (.str "wood")) (fCons (fArgs oTup fNil) (fCons (fArgs oTup (fCons (fArgs oTup (fCons (fArgs oTup fNil) (fCons (fU oNeg (ret3 (.int 1))) (fCons (ret3 (.int 0)) fNil)))) fNil)) fNil)))) fNil))))))) (gVar 2))
    (fRet (fCall 2 d_pick (fCons (fVar 0) (fCons (fB oAdd (fVar 2) (fArgs oLst (fCons (fArgs oTup (fCons (ret3 (.str "wood")) (fCons (fArgs oTup (fCons (ret3 (.str "A")) fNil)) (fCons (fArgs oTup (fCons (fVar 1) fNil)) fNil)))) (fCons (fArgs oTup (fCons (ret3 (.str "wood")) (fCons (fArgs oTup (fCons (ret3 (.str "a")) fNil)) (fCons (fArgs oTup (fCons (fArgs oTup (fCons (fArgs oLst (fCons (ret3 (.str "a")) fNil)) (fCons (ret3 (.int 0)) (fCons (ret3 (.int 0)) fNil)))) fNil)) fNil)))) (fCons (fArgs oTup (fCons (ret3 (.str "wood")) (fCons (fArgs oTup fNil) (fCons (fArgs oTup (fCons (fArgs oTup (fCons (fArgs oTup fNil) (fCons (ret3 (.int 0)) (fCons (ret3 (.int 0)) (fCons (ret3 (.int 0)) fNil))))) fNil)) fNil)))) fNil))))) fNil))))))))
def d_bad_wood : FD := fdOf 3 f_bad_wood
/-- _law_bad_place: 0 _law_draw -/
def f_bad_place : FS := (fRet (fCall 2 d_pick (fCons (fVar 0) (fCons (fArgs oLst (fCons (ret3 .non) (fCons (ret3 (.int 5)) (fCons (fArgs oLst (fCons (ret3 (.int 0)) fNil)) (fCons (fArgs oTup (fCons (ret3 (.int 2)) fNil)) (fCons (fArgs oTup (fCons (ret3 (.bl true)) fNil)) (fCons (ret3 (.str "01")) (fCons (fArgs oTup (fCons (fU oNeg (ret3 (.int 1))) fNil)) (fCons (fArgs oTup (fCons (ret3 (.int 0)) (fCons (ret3 (.str "1")) fNil))) (fCons (fArgs oTup (fCons (fArgs oTup (fCons (ret3 (.int 0)) fNil)) fNil)) fNil)))))))))) fNil))))
def d_bad_place : FD := fdOf 1 f_bad_place
/-- law: 0 _law_script, 1 _law_draw, 2 _law_turn, 3 _law_lap, 4 _law_place_here, 5 _law_node, 6 _law_due, 7 _law_bad, 8 _law_off, 9 _law_wood_here, 10 _law_work -/
def f_main : FS := (fSeq (fAsg (fCall 1 d_begun (fCons (fVar 0) fNil)) (gVar 1))
    (fSeq (fFor loopN (fOverR (fCons (fB oAdd (ret3 (.int 3)) (fArgs oMin (fCons (fArgs oLen (fCons (fVar 0) fNil)) (fCons (ret3 (.int 9)) fNil)))) fNil)) (gVar 2)
    (fSeq (fAsg (fCall 3 d_wood (fCons (fVar 1) (fCons (fCall 2 d_scope (fCons (fVar 1) (fCons (ret3 (.int 3)) fNil))) (fCons (ret3 (.int 6)) fNil)))) (gVar 9))
    (fSeq (fFor loopN (fOverR (fCons (ret3 (.int 4)) fNil)) (gVar 3)
    (fSeq (fAsg (fCall 2 d_place (fCons (fVar 1) (fCons (ret3 (.int 40)) fNil))) (gVar 4))
    (fSeq (fAsg (fCall 2 d_at (fCons (fVar 9) (fCons (fVar 4) fNil))) (gVar 5))
    (fSeq (fAsg (fCall 3 d_numbered (fCons (fB oIx (fVar 9) (ret3 (.int 1))) (fCons (fVar 5) (fCons (fB oIx (fVar 9) (ret3 (.int 2))) fNil)))) (gVar 6))
    (fSeq (fIfS (bnd (fB oNe (fArgs oRepr (fCons (fArgs oLst (fCons (fCall 2 d_p_node_at (fCons (fVar 9) (fCons (fVar 4) fNil))) (fCons (fCallK [1, 0] d_p_node_at (fCons (fVar 4) (fCons (fVar 9) fNil))) fNil))) fNil)) (fArgs oRepr (fCons (fArgs oLst (fCons (fVar 5) (fCons (fVar 5) fNil))) fNil))) asB)
    (fRet (ret3 (.bl false)))
    fNop)
    (fIfS (bnd (fB oNe (fArgs oRepr (fCons (fArgs oLst (fCons (fCall 2 d_p_within (fCons (fVar 9) (fCons (fVar 4) fNil))) (fCons (fCallK [1, 0] d_p_within (fCons (fVar 4) (fCons (fVar 9) fNil))) fNil))) fNil)) (fArgs oRepr (fCons (fArgs oLst (fCons (fVar 6) (fCons (fVar 6) fNil))) fNil))) asB)
    (fRet (ret3 (.bl false)))
    fNop))))))
    (fSeq (fAsg (fArgs oTup (fCons (fCall 1 d_bad_wood (fCons (fVar 1) fNil)) (fCons (fCall 1 d_bad_place (fCons (fVar 1) fNil)) fNil))) (gTup3 2 (gCons3 (gVar 7) (gCons3 (gVar 8) gNil3))))
    (fFor loopN (fOverL (fArgs oLst (fCons (ret3 (.fn 0)) (fCons (ret3 (.fn 1)) fNil)))) (gVar 10)
    (fSeq (fIfS (fNot (bnd (fArgs (oIsV tab) (fCons (fCaught (fCallV 10 ft_p_node_at_p_within (fCons (fVar 7) (fCons (fVar 8) fNil)))) (fCons (ret3 (.cl 2)) fNil))) asB))
    (fRet (ret3 (.bl false)))
    fNop)
    (fIfS (fNot (bnd (fArgs (oIsV tab) (fCons (fCaught (fCallV 10 ft_p_node_at_p_within (fCons (fVar 9) (fCons (fVar 8) fNil)))) (fCons (ret3 (.cl 1)) fNil))) asB))
    (fRet (ret3 (.bl false)))
    fNop)))))))
    (fRet (ret3 (.bl true)))))
def d_main : FD := fdOf 11 f_main
end L_k01

set_option maxHeartbeats 4000000
namespace L_k01
open PySem PySem.Spec PyProof.Rows L2 S3
/-- is_name: 0 thing, 1 letter -/
def q_p_is_name : PS := (qSeq (qIfS (qOr (qNot (qT (qArgs qIsi (qCons (qVar 0) (qCons (qC (.s (.ty "str"))) qNil))))) (qOr (qNot (qT (qChain qLe qLe (qC (.s (.int 1))) (qArgs qLen (qCons (qVar 0) qNil)) (qC (.s (.int 8)))))) (qT (qB (qIn false) (qVar 0) (qC (.s (.tcon (ks_KEPT.map P.str))))))))
    (qRet (qC (.s (.bl false))))
    qNop)
    (qRet (qArgs qAll (qCons (qLc loopN [1] (qOverS (qVar 0)) (tV 1) (qC true) (qB (qInS false) (qVar 1) (qC (.s (.str "abcdefghijklmnopqrstuvwxyz"))))) qNil))))
def pd_p_is_name : PD := pdOf 2 q_p_is_name
theorem sd_p_is_name : SdD d_p_is_name pd_p_is_name := s_def ((s_seq (s_ifS (s_or (s_not (s_asB (s_args op_isi5 (s_cons (s_var 0) (s_cons (s_con fun _ _ => .ty _) s_nil))))) (s_or (s_not (s_asB (s_chain op_le5 op_le5 (s_con fun _ _ => .int _) (s_args op_len5 (s_cons (s_var 0) s_nil)) (s_con fun _ _ => .int _)))) (s_asB (s_B op_in5 (s_var 0) (s_con fun _ _ => .tcon (unA_map (fun i => .str _) _))))))
    (s_ret (s_con fun _ _ => .bl _))
    s_nop)
    (s_ret (s_args op_all5 (s_cons (s_lc (s_overS (s_var 0)) (s_gVar 1) s_conB (s_B op_inS5 (s_var 1) (s_con fun _ _ => .str _)) (by decide)) s_nil)))) : SdS f_p_is_name q_p_is_name)
/-- are_names: 0 thing, 1 one, 2 other, 3 name -/
def q_p_are_names : PS := (qSeq (qIfS (qOr (qNot (qT (qArgs qIsi (qCons (qVar 0) (qCons (qC (.s (.ty "tuple"))) qNil))))) (qNot (qT (qArgs qAll (qCons (qLc loopN [3] (qOverT (qVar 0)) (tV 3) (qC true) (qCall 1 pd_p_is_name (qCons (qVar 3) qNil))) qNil)))))
    (qRet (qC (.s (.bl false))))
    qNop)
    (qRet (qArgs qAll (qCons (qLc loopN [1, 2] (qOverZ (qCons (qVar 0) (qCons (qSlice (qVar 0) (qI (qC (.s (.int 1)))) (qC none)) qNil))) (tT 2 (S3.tCons (tV 1) (S3.tCons (tV 2) S3.tNil))) (qC true) (qB qLt (qVar 1) (qVar 2))) qNil))))
def pd_p_are_names : PD := pdOf 4 q_p_are_names
theorem sd_p_are_names : SdD d_p_are_names pd_p_are_names := s_def ((s_seq (s_ifS (s_or (s_not (s_asB (s_args op_isi5 (s_cons (s_var 0) (s_cons (s_con fun _ _ => .ty _) s_nil))))) (s_not (s_asB (s_args op_all5 (s_cons (s_lc (s_overT (s_var 0)) (s_gVar 3) s_conB (s_call sd_p_is_name (s_cons (s_var 3) s_nil)) (by decide)) s_nil)))))
    (s_ret (s_con fun _ _ => .bl _))
    s_nop)
    (s_ret (s_args op_all5 (s_cons (s_lc (s_overZ (s_cons (s_var 0) (s_cons (s_sl (s_var 0) (s_asI (s_con fun _ _ => .int _)) s_conB) s_nil))) (s_gTup 2 (s_gCons (s_gVar 1) (s_gCons (s_gVar 2) s_gNil))) s_conB (s_B op_lt5 (s_var 1) (s_var 2)) (by decide)) s_nil)))) : SdS f_p_are_names q_p_are_names)
/-- is_scope: 0 thing -/
def q_p_is_scope : PS := (qRet (qAndV (qCall 1 pd_p_are_names (qCons (qVar 0) qNil)) (qB qLe (qArgs qLen (qCons (qVar 0) qNil)) (qC (.s (.int 3))))))
def pd_p_is_scope : PD := pdOf 1 q_p_is_scope
theorem sd_p_is_scope : SdD d_p_is_scope pd_p_is_scope := s_def ((s_ret (s_andV (s_call sd_p_are_names (s_cons (s_var 0) s_nil)) (s_B op_le5 (s_args op_len5 (s_cons (s_var 0) s_nil)) (s_con fun _ _ => .int _)))) : SdS f_p_is_scope q_p_is_scope)
/-- is_number: 0 thing, 1 end -/
def q_p_is_number : PS := (qRet (qAndV (qArgs qIsi (qCons (qVar 0) (qCons (qC (.s (.ty "int"))) qNil))) (qAndV (qNotV (qArgs qIsi (qCons (qVar 0) (qCons (qC (.s (.ty "bool"))) qNil)))) (qChain qLe qLt (qC (.s (.int 0))) (qVar 0) (qVar 1)))))
def pd_p_is_number : PD := pdOf 2 q_p_is_number
theorem sd_p_is_number : SdD d_p_is_number pd_p_is_number := s_def ((s_ret (s_andV (s_args op_isi5 (s_cons (s_var 0) (s_cons (s_con fun _ _ => .ty _) s_nil))) (s_andV (s_notV (s_args op_isi5 (s_cons (s_var 0) (s_cons (s_con fun _ _ => .ty _) s_nil)))) (s_chain op_le5 op_lt5 (s_con fun _ _ => .int _) (s_var 0) (s_var 1))))) : SdS f_p_is_number q_p_is_number)
/-- is_node: 0 thing, 1 scope, 2 many, 3 name -/
def q_p_is_node : PS := (qSeq (qIfS (qOr (qNot (qT (qArgs qIsi (qCons (qVar 0) (qCons (qC (.s (.ty "tuple"))) qNil))))) (qOr (qT (qB qNe (qArgs qLen (qCons (qVar 0) qNil)) (qC (.s (.int 3))))) (qNot (qT (qCall 1 pd_p_are_names (qCons (qB qIx (qVar 0) (qC (.s (.int 0)))) qNil))))))
    (qRet (qC (.s (.bl false))))
    qNop)
    (qRet (qAndV (qArgs qAll (qCons (qLc loopN [3] (qOverT (qB qIx (qVar 0) (qC (.s (.int 0))))) (tV 3) (qC true) (qB (qIn false) (qVar 3) (qVar 1))) qNil)) (qAndV (qCall 2 pd_p_is_number (qCons (qB qIx (qVar 0) (qC (.s (.int 1)))) (qCons (qVar 2) qNil))) (qCall 2 pd_p_is_number (qCons (qB qIx (qVar 0) (qC (.s (.int 2)))) (qCons (qVar 2) qNil)))))))
def pd_p_is_node : PD := pdOf 4 q_p_is_node
theorem sd_p_is_node : SdD d_p_is_node pd_p_is_node := s_def ((s_seq (s_ifS (s_or (s_not (s_asB (s_args op_isi5 (s_cons (s_var 0) (s_cons (s_con fun _ _ => .ty _) s_nil))))) (s_or (s_asB (s_B op_ne5 (s_args op_len5 (s_cons (s_var 0) s_nil)) (s_con fun _ _ => .int _))) (s_not (s_asB (s_call sd_p_are_names (s_cons (s_B op_ix5 (s_var 0) (s_con fun _ _ => .int _)) s_nil))))))
    (s_ret (s_con fun _ _ => .bl _))
    s_nop)
    (s_ret (s_andV (s_args op_all5 (s_cons (s_lc (s_overT (s_B op_ix5 (s_var 0) (s_con fun _ _ => .int _))) (s_gVar 3) s_conB (s_B op_in5 (s_var 3) (s_var 1)) (by decide)) s_nil)) (s_andV (s_call sd_p_is_number (s_cons (s_B op_ix5 (s_var 0) (s_con fun _ _ => .int _)) (s_cons (s_var 2) s_nil))) (s_call sd_p_is_number (s_cons (s_B op_ix5 (s_var 0) (s_con fun _ _ => .int _)) (s_cons (s_var 2) s_nil))))))) : SdS f_p_is_node q_p_is_node)
/-- is_wood: 0 thing, 1 node -/
def q_p_is_wood : PS := (qSeq (qIfS (qOr (qNot (qT (qArgs qIsi (qCons (qVar 0) (qCons (qC (.s (.ty "tuple"))) qNil))))) (qOr (qT (qB qNe (qArgs qLen (qCons (qVar 0) qNil)) (qC (.s (.int 3))))) (qOr (qNot (qT (qArgs qIsi (qCons (qB qIx (qVar 0) (qC (.s (.int 0)))) (qCons (qC (.s (.ty "str"))) qNil))))) (qT (qB qNe (qB qIx (qVar 0) (qC (.s (.int 0)))) (qC (.s (.str "wood"))))))))
    (qRet (qC (.s (.bl false))))
    qNop)
    (qSeq (qIfS (qOr (qNot (qT (qCall 1 pd_p_is_scope (qCons (qB qIx (qVar 0) (qC (.s (.int 1)))) qNil)))) (qOr (qNot (qT (qArgs qIsi (qCons (qB qIx (qVar 0) (qC (.s (.int 2)))) (qCons (qC (.s (.ty "tuple"))) qNil))))) (qNot (qT (qChain qLe qLe (qC (.s (.int 1))) (qArgs qLen (qCons (qB qIx (qVar 0) (qC (.s (.int 2)))) qNil)) (qC (.s (.int 400))))))))
    (qRet (qC (.s (.bl false))))
    qNop)
    (qRet (qArgs qAll (qCons (qLc loopN [1] (qOverT (qB qIx (qVar 0) (qC (.s (.int 2))))) (tV 1) (qC true) (qCall 3 pd_p_is_node (qCons (qVar 1) (qCons (qB qIx (qVar 0) (qC (.s (.int 1)))) (qCons (qArgs qLen (qCons (qB qIx (qVar 0) (qC (.s (.int 2)))) qNil)) qNil))))) qNil)))))
def pd_p_is_wood : PD := pdOf 2 q_p_is_wood
theorem sd_p_is_wood : SdD d_p_is_wood pd_p_is_wood := s_def ((s_seq (s_ifS (s_or (s_not (s_asB (s_args op_isi5 (s_cons (s_var 0) (s_cons (s_con fun _ _ => .ty _) s_nil))))) (s_or (s_asB (s_B op_ne5 (s_args op_len5 (s_cons (s_var 0) s_nil)) (s_con fun _ _ => .int _))) (s_or (s_not (s_asB (s_args op_isi5 (s_cons (s_B op_ix5 (s_var 0) (s_con fun _ _ => .int _)) (s_cons (s_con fun _ _ => .ty _) s_nil))))) (s_asB (s_B op_ne5 (s_B op_ix5 (s_var 0) (s_con fun _ _ => .int _)) (s_con fun _ _ => .str _))))))
    (s_ret (s_con fun _ _ => .bl _))
    s_nop)
    (s_seq (s_ifS (s_or (s_not (s_asB (s_call sd_p_is_scope (s_cons (s_B op_ix5 (s_var 0) (s_con fun _ _ => .int _)) s_nil)))) (s_or (s_not (s_asB (s_args op_isi5 (s_cons (s_B op_ix5 (s_var 0) (s_con fun _ _ => .int _)) (s_cons (s_con fun _ _ => .ty _) s_nil))))) (s_not (s_asB (s_chain op_le5 op_le5 (s_con fun _ _ => .int _) (s_args op_len5 (s_cons (s_B op_ix5 (s_var 0) (s_con fun _ _ => .int _)) s_nil)) (s_con fun _ _ => .int _))))))
    (s_ret (s_con fun _ _ => .bl _))
    s_nop)
    (s_ret (s_args op_all5 (s_cons (s_lc (s_overT (s_B op_ix5 (s_var 0) (s_con fun _ _ => .int _))) (s_gVar 1) s_conB (s_call sd_p_is_node (s_cons (s_var 1) (s_cons (s_B op_ix5 (s_var 0) (s_con fun _ _ => .int _)) (s_cons (s_args op_len5 (s_cons (s_B op_ix5 (s_var 0) (s_con fun _ _ => .int _)) s_nil)) s_nil)))) (by decide)) s_nil))))) : SdS f_p_is_wood q_p_is_wood)
/-- need_wood: 0 wood -/
def q_p_need_wood : PS := (qIfS (qNot (qT (qCall 1 pd_p_is_wood (qCons (qVar 0) qNil))))
    (qNow (.er 2))
    qNop)
def pd_p_need_wood : PD := pdOf 1 q_p_need_wood
theorem sd_p_need_wood : SdD d_p_need_wood pd_p_need_wood := s_def ((s_ifS (s_not (s_asB (s_call sd_p_is_wood (s_cons (s_var 0) s_nil))))
    (s_rai 2)
    s_nop) : SdS f_p_need_wood q_p_need_wood)
/-- is_place: 0 thing, 1 way -/
def q_p_is_place : PS := (qRet (qAndV (qArgs qIsi (qCons (qVar 0) (qCons (qC (.s (.ty "tuple"))) qNil))) (qArgs qAll (qCons (qLc loopN [1] (qOverT (qVar 0)) (tV 1) (qC true) (qCall 2 pd_p_is_number (qCons (qVar 1) (qCons (qC (.s (.int 2))) qNil)))) qNil))))
def pd_p_is_place : PD := pdOf 2 q_p_is_place
theorem sd_p_is_place : SdD d_p_is_place pd_p_is_place := s_def ((s_ret (s_andV (s_args op_isi5 (s_cons (s_var 0) (s_cons (s_con fun _ _ => .ty _) s_nil))) (s_args op_all5 (s_cons (s_lc (s_overT (s_var 0)) (s_gVar 1) s_conB (s_call sd_p_is_number (s_cons (s_var 1) (s_cons (s_con fun _ _ => .int _) s_nil))) (by decide)) s_nil)))) : SdS f_p_is_place q_p_is_place)
/-- need_place: 0 place -/
def q_p_need_place : PS := (qIfS (qNot (qT (qCall 1 pd_p_is_place (qCons (qVar 0) qNil))))
    (qNow (.er 1))
    qNop)
def pd_p_need_place : PD := pdOf 1 q_p_need_place
theorem sd_p_need_place : SdD d_p_need_place pd_p_need_place := s_def ((s_ifS (s_not (s_asB (s_call sd_p_is_place (s_cons (s_var 0) s_nil))))
    (s_rai 1)
    s_nop) : SdS f_p_need_place q_p_need_place)
/-- node_told: 0 wood, 1 place, 2 node, 3 way -/
def q_p_node_told : PS := (qSeq (qSet 2 (qC (.s (.int 0))))
    (qSeq (qFor loopN (qOverT (qVar 1)) (tV 3)
    (qSet 2 (qB qIx (qB qIx (qB qIx (qVar 0) (qC (.s (.int 2)))) (qVar 2)) (qB qAdd (qC (.s (.int 1))) (qVar 3)))))
    (qRet (qVar 2))))
def pd_p_node_told : PD := pdOf 4 q_p_node_told
theorem sd_p_node_told : SdD d_p_node_told pd_p_node_told := s_def ((s_seq (s_set (s_con fun _ _ => .int _))
    (s_seq (s_for (s_overT (s_var 1)) (s_gVar 3)
    (s_set (s_B op_ix5 (s_B op_ix5 (s_B op_ix5 (s_var 0) (s_con fun _ _ => .int _)) (s_var 2)) (s_B op_add5 (s_con fun _ _ => .int _) (s_var 3)))))
    (s_ret (s_var 2)))) : SdS f_p_node_told q_p_node_told)
/-- node_at: 0 wood, 1 place -/
def q_p_node_at : PS := (qSeq (qDrop (qCall 1 pd_p_need_wood (qCons (qVar 0) qNil)))
    (qSeq (qDrop (qCall 1 pd_p_need_place (qCons (qVar 1) qNil)))
    (qRet (qCall 2 pd_p_node_told (qCons (qVar 0) (qCons (qVar 1) qNil))))))
def pd_p_node_at : PD := pdOf 2 q_p_node_at
theorem sd_p_node_at : SdD d_p_node_at pd_p_node_at := s_def ((s_seq (s_drop (s_call sd_p_need_wood (s_cons (s_var 0) s_nil)))
    (s_seq (s_drop (s_call sd_p_need_place (s_cons (s_var 1) s_nil)))
    (s_ret (s_call sd_p_node_told (s_cons (s_var 0) (s_cons (s_var 1) s_nil)))))) : SdS f_p_node_at q_p_node_at)
/-- numbered: 0 scope, 1 first, 2 row_of, 3 line, 4 numbers, 5 rows, 6 letter, 7 left, 8 right, 9 key -/
def q_p_numbered (cs : List D) (pl : PD) : PS := (qSeq (qSet 3 (qLst (qCons (qVar 1) qNil)))
    (qSeq (qSet 4 (qDisp (qPair (qVar 1) (qC (.s (.int 0))) qNil)))
    (qSeq (qSet 5 (qLst qNil))
    (qSeq (qWhile (qT (qB qLt (qArgs qLen (qCons (qVar 5) qNil)) (qArgs qLen (qCons (qVar 3) qNil))))
    (qSeq (qAsg (qCallR 2 cs 1 pl (qCons (qB qIx (qVar 3) (qArgs qLen (qCons (qVar 5) qNil))) qNil)) (tT 3 (S3.tCons (tV 6) (S3.tCons (tV 7) (S3.tCons (tV 8) S3.tNil)))))
    (qSeq (qFor loopN (qOverT (qTup (qCons (qVar 7) (qCons (qVar 8) qNil)))) (tV 9)
    (qIfS (qT (qB (qDin true) (qVar 9) (qVar 4)))
    (qSeq (qStore (qArgs qLen (qCons (qVar 3) qNil)) (qVar 4) (qVar 9))
    (qDrop (qMeth mApp (qVar 3) (qCons (qVar 9) qNil))))
    qNop))
    (qDrop (qMeth mApp (qVar 5) (qCons (qTup (qCons (qVar 6) (qCons (qB qDget (qVar 4) (qVar 7)) (qCons (qB qDget (qVar 4) (qVar 8)) qNil)))) qNil))))) loopN)
    (qRet (qTup (qCons (qC (.s (.str "wood"))) (qCons (qVar 0) (qCons (qArgs qTuple (qCons (qVar 5) qNil)) qNil)))))))))
def pd_p_numbered (cs : List D) (pl : PD) : PD := pdOf 10 (q_p_numbered cs pl)
theorem sd_p_numbered {fdl : FD} {pl : PD} (cs : List D) (sl : SdD fdl pl) : SdDL 2 (d_p_numbered (capF fdl cs)) (pd_p_numbered cs pl) := s_defL ((s_seq (s_set (s_lst (s_cons (s_var 1) s_nil)))
    (s_seq (s_set (s_disp (s_pair (s_var 1) (s_con fun _ _ => .int _) s_pairNil)))
    (s_seq (s_set (s_lst s_nil))
    (s_seq (s_while (s_asB (s_B op_lt5 (s_args op_len5 (s_cons (s_var 5) s_nil)) (s_args op_len5 (s_cons (s_var 3) s_nil))))
    (s_seq (s_asg (s_callR sl (s_cons (s_B op_ix5 (s_var 3) (s_args op_len5 (s_cons (s_var 5) s_nil))) s_nil)) (s_gTup 3 (s_gCons (s_gVar 6) (s_gCons (s_gVar 7) (s_gCons (s_gVar 8) s_gNil)))))
    (s_seq (s_for (s_overT (s_tup (s_cons (s_var 7) (s_cons (s_var 8) s_nil)))) (s_gVar 9)
    (s_ifS (s_asB (s_B op_din5 (s_var 9) (s_var 4)))
    (s_seq (s_sub (s_args op_len5 (s_cons (s_var 3) s_nil)) (s_var 4) (s_var 9))
    (s_drop (s_meth op_app5 (s_var 3) (s_cons (s_var 9) s_nil))))
    s_nop))
    (s_drop (s_meth op_app5 (s_var 5) (s_cons (s_tup (s_cons (s_var 6) (s_cons (s_B op_dget5 (s_var 4) (s_var 7)) (s_cons (s_B op_dget5 (s_var 4) (s_var 8)) s_nil)))) s_nil))))) loopN)
    (s_ret (s_tup (s_cons (s_con fun _ _ => .str _) (s_cons (s_var 0) (s_cons (s_args op_tuple5 (s_cons (s_var 5) s_nil)) s_nil))))))))) : SdS (f_p_numbered (capF fdl cs)) (q_p_numbered cs pl)) (by decide)
/-- within: 0 wood, 1 place -/
def q_p_within : PS := (qSeq (qDrop (qCall 1 pd_p_need_wood (qCons (qVar 0) qNil)))
    (qSeq (qDrop (qCall 1 pd_p_need_place (qCons (qVar 1) qNil)))
    (qRet (qCallLm 2 [0] (fun cs => pd_p_numbered cs (pdOf (List.length Nl_p_within_0) (qRet (qB qIx (qB qIx (qVar 1) (qC (.s (.int 2)))) (qVar 0))))) (qCons (qB qIx (qVar 0) (qC (.s (.int 1)))) (qCons (qCall 2 pd_p_node_told (qCons (qVar 0) (qCons (qVar 1) qNil))) qNil))))))
def pd_p_within : PD := pdOf 2 q_p_within
theorem sd_p_within : SdD d_p_within pd_p_within := s_def ((s_seq (s_drop (s_call sd_p_need_wood (s_cons (s_var 0) s_nil)))
    (s_seq (s_drop (s_call sd_p_need_place (s_cons (s_var 1) s_nil)))
    (s_ret (s_callLm (fun cs => sd_p_numbered cs (sd_lam (s_B op_ix5 (s_B op_ix5 (s_var 1) (s_con fun _ _ => .int _)) (s_var 0)))) (s_cons (s_B op_ix5 (s_var 0) (s_con fun _ _ => .int _)) (s_cons (s_call sd_p_node_told (s_cons (s_var 0) (s_cons (s_var 1) s_nil))) s_nil)))))) : SdS f_p_within q_p_within)
def pft_p_node_at_p_within : PTab := fun i => match i with
  | 0 => some (2, pd_p_node_at)
  | 1 => some (2, pd_p_within)
  | _ => none
theorem sft_p_node_at_p_within : TabSd ft_p_node_at_p_within pft_p_node_at_p_within := fun j n pd h => by
  unfold pft_p_node_at_p_within at h
  split at h
  · cases h
    exact ⟨_, rfl, sd_p_node_at⟩
  · cases h
    exact ⟨_, rfl, sd_p_within⟩
  · cases h
abbrev pd_begun : PD := S3.pd_begun
theorem sd_begun : SdD d_begun pd_begun := S3.sd_begun
abbrev pd_take : PD := S3.pd_take
theorem sd_take : SdD d_take pd_take := S3.sd_take
/-- _law_pick: 0 _law_draw, 1 _law_some -/
def q_pick : PS := (qRet (qB qIx (qVar 1) (qCallL 2 pd_take (qCons (qVar 0) (qCons (qArgs qLen (qCons (qVar 1) qNil)) qNil)))))
def pd_pick : PD := pdOf 2 q_pick
theorem sd_pick : SdD d_pick pd_pick := s_def ((s_ret (s_B op_ix5 (s_var 1) (s_callL sd_take (s_cons (s_var 0) (s_cons (s_args op_len5 (s_cons (s_var 1) s_nil)) s_nil))))) : SdS f_pick q_pick)
/-- _law_shuffled: 0 _law_draw, 1 _law_some, 2 _law_left, 3 _law_found -/
def q_shuffled : PS := (qSeq (qPar [2, 3] (qCons (qArgs qList (qCons (qVar 1) qNil)) (qCons (qLst qNil) qNil)))
    (qSeq (qWhile (qT (qB qNe (qVar 2) (qLst qNil)))
    (qDrop (qMeth mApp (qVar 3) (qCons (qMeth mPopAt (qVar 2) (qCons (qCallL 2 pd_take (qCons (qVar 0) (qCons (qArgs qLen (qCons (qVar 2) qNil)) qNil))) qNil)) qNil))) loopN)
    (qRet (qVar 3))))
def pd_shuffled : PD := pdOf 4 q_shuffled
theorem sd_shuffled : SdD d_shuffled pd_shuffled := s_def ((s_seq (s_par (s_cons (s_args op_list5 (s_cons (s_var 1) s_nil)) (s_cons (s_lst s_nil) s_nil)))
    (s_seq (s_while (s_asB (s_B op_ne5 (s_var 2) (s_lst s_nil)))
    (s_drop (s_meth op_app5 (s_var 3) (s_cons (s_meth op_popAt5 (s_var 2) (s_cons (s_callL sd_take (s_cons (s_var 0) (s_cons (s_args op_len5 (s_cons (s_var 2) s_nil)) s_nil))) s_nil)) s_nil))) loopN)
    (s_ret (s_var 3)))) : SdS f_shuffled q_shuffled)
/-- _law_names: 0 _law_draw, 1 _law_many, 2 _law_some, 3 _law_one, 4 _law_stem, 5 _law_other -/
def q_names : PS := (qSeq (qSet 2 (qLst qNil))
    (qSeq (qFor loopN (qOverS (qC (.s (.str "bcdfghklmnprstvwxz")))) (tV 3)
    (qSet 2 (qB qAdd (qVar 2) (qLc loopN [5] (qOverS (qC (.s (.str "aeiou")))) (tV 5) (qC true) (qB qAdd (qVar 3) (qVar 5))))))
    (qRet (qLc loopN [4] (qOverL (qSlice (qCallL 2 pd_shuffled (qCons (qVar 0) (qCons (qVar 2) qNil))) (qC none) (qI (qVar 1)))) (tV 4) (qC true) (qB qAdd (qVar 4) (qCallL 2 pd_pick (qCons (qVar 0) (qCons (qLst (qCons (qC (.s (.str "q"))) (qCons (qC (.s (.str "k"))) (qCons (qC (.s (.str "x"))) (qCons (qC (.s (.str "mu"))) qNil))))) qNil))))))))
def pd_names : PD := pdOf 6 q_names
theorem sd_names : SdD d_names pd_names := s_def ((s_seq (s_set (s_lst s_nil))
    (s_seq (s_for (s_overS (s_con fun _ _ => .str _)) (s_gVar 3)
    (s_set (s_B op_add5 (s_var 2) (s_lc (s_overS (s_con fun _ _ => .str _)) (s_gVar 5) s_conB (s_B op_add5 (s_var 3) (s_var 5)) (by decide)))))
    (s_ret (s_lc (s_overL (s_sl (s_callL sd_shuffled (s_cons (s_var 0) (s_cons (s_var 2) s_nil))) s_conB (s_asI (s_var 1)))) (s_gVar 4) s_conB (s_B op_add5 (s_var 4) (s_callL sd_pick (s_cons (s_var 0) (s_cons (s_lst (s_cons (s_con fun _ _ => .str _) (s_cons (s_con fun _ _ => .str _) (s_cons (s_con fun _ _ => .str _) (s_cons (s_con fun _ _ => .str _) s_nil))))) s_nil)))) (by decide))))) : SdS f_names q_names)
/-- _law_scope: 0 _law_draw, 1 _law_most -/
def q_scope : PS := (qRet (qArgs qTuple (qCons (qArgs qSortedS (qCons (qCallL 2 pd_names (qCons (qVar 0) (qCons (qCallL 2 pd_take (qCons (qVar 0) (qCons (qB qAdd (qVar 1) (qC (.s (.int 1)))) qNil))) qNil))) qNil)) qNil)))
def pd_scope : PD := pdOf 2 q_scope
theorem sd_scope : SdD d_scope pd_scope := s_def ((s_ret (s_args op_tuple5 (s_cons (s_args op_sortedS5 (s_cons (s_callL sd_names (s_cons (s_var 0) (s_cons (s_callL sd_take (s_cons (s_var 0) (s_cons (s_B op_add5 (s_var 1) (s_con fun _ _ => .int _)) s_nil))) s_nil))) s_nil)) s_nil))) : SdS f_scope q_scope)
/-- _law_letters: 0 _law_scope_here, 1 _law_found, 2 _law_name, 3 _law_letter -/
def q_letters : PS := (qSeq (qSet 1 (qLst (qCons (qTup qNil) qNil)))
    (qSeq (qFor loopN (qOverT (qVar 0)) (tV 2)
    (qSet 1 (qB qAdd (qVar 1) (qLc loopN [3] (qOverL (qVar 1)) (tV 3) (qC true) (qB qAdd (qVar 3) (qTup (qCons (qVar 2) qNil)))))))
    (qRet (qVar 1))))
def pd_letters : PD := pdOf 4 q_letters
theorem sd_letters : SdD d_letters pd_letters := s_def ((s_seq (s_set (s_lst (s_cons (s_tup s_nil) s_nil)))
    (s_seq (s_for (s_overT (s_var 0)) (s_gVar 2)
    (s_set (s_B op_add5 (s_var 1) (s_lc (s_overL (s_var 1)) (s_gVar 3) s_conB (s_B op_add5 (s_var 3) (s_tup (s_cons (s_var 2) s_nil))) (by decide)))))
    (s_ret (s_var 1)))) : SdS f_letters q_letters)
/-- _law_wood: 0 _law_draw, 1 _law_scope_here, 2 _law_most, 3 _law_many, 4 _law_marks, 5 _law_rows, 6 _law_k -/
def q_wood : PS := (qSeq (qPar [3, 4] (qCons (qB qAdd (qC (.s (.int 1))) (qCallL 2 pd_take (qCons (qVar 0) (qCons (qVar 2) qNil)))) (qCons (qCall 1 pd_letters (qCons (qVar 1) qNil)) qNil)))
    (qSeq (qSet 5 (qLc loopN [6] (qOverR (qCons (qVar 3) qNil)) (tV 6) (qC true) (qTup (qCons (qCallL 2 pd_pick (qCons (qVar 0) (qCons (qVar 4) qNil))) (qCons (qCallL 2 pd_take (qCons (qVar 0) (qCons (qVar 3) qNil))) (qCons (qCallL 2 pd_take (qCons (qVar 0) (qCons (qVar 3) qNil))) qNil))))))
    (qRet (qTup (qCons (qC (.s (.str "wood"))) (qCons (qVar 1) (qCons (qArgs qTuple (qCons (qVar 5) qNil)) qNil)))))))
def pd_wood : PD := pdOf 7 q_wood
theorem sd_wood : SdD d_wood pd_wood := s_def ((s_seq (s_parT (is := [3, 4]) (s_cons (s_B op_add5 (s_con fun _ _ => .int _) (s_callL sd_take (s_cons (s_var 0) (s_cons (s_var 2) s_nil)))) (s_cons (s_call sd_letters (s_cons (s_var 1) s_nil)) s_nil)) (Nat.le_of_ble_eq_true rfl))
    (s_seq (s_set (s_lc (s_overR (s_cons (s_var 3) s_nil)) (s_gVar 6) s_conB (s_tup (s_cons (s_callL sd_pick (s_cons (s_var 0) (s_cons (s_var 4) s_nil))) (s_cons (s_callL sd_take (s_cons (s_var 0) (s_cons (s_var 3) s_nil))) (s_cons (s_callL sd_take (s_cons (s_var 0) (s_cons (s_var 3) s_nil))) s_nil)))) (by decide)))
    (s_ret (s_tup (s_cons (s_con fun _ _ => .str _) (s_cons (s_var 1) (s_cons (s_args op_tuple5 (s_cons (s_var 5) s_nil)) s_nil))))))) : SdS f_wood q_wood)
/-- _law_at: 0 _law_wood_here, 1 _law_place_here, 2 _law_node, 3 _law_way -/
def q_at : PS := (qSeq (qSet 2 (qC (.s (.int 0))))
    (qSeq (qFor loopN (qOverT (qVar 1)) (tV 3)
    (qSet 2 (qB qIx (qB qIx (qB qIx (qVar 0) (qC (.s (.int 2)))) (qVar 2)) (qB qAdd (qC (.s (.int 1))) (qVar 3)))))
    (qRet (qVar 2))))
def pd_at : PD := pdOf 4 q_at
theorem sd_at : SdD d_at pd_at := s_def ((s_seq (s_set (s_con fun _ _ => .int _))
    (s_seq (s_for (s_overT (s_var 1)) (s_gVar 3)
    (s_set (s_B op_ix5 (s_B op_ix5 (s_B op_ix5 (s_var 0) (s_con fun _ _ => .int _)) (s_var 2)) (s_B op_add5 (s_con fun _ _ => .int _) (s_var 3)))))
    (s_ret (s_var 2)))) : SdS f_at q_at)
/-- _law_numbered: 0 _law_scope_here, 1 _law_first, 2 _law_rows, 3 _law_line, 4 _law_numbers, 5 _law_done, 6 _law_letter, 7 _law_left, 8 _law_right, 9 _law_key -/
def q_numbered : PS := (qSeq (qPar [3, 4, 5] (qCons (qLst (qCons (qVar 1) qNil)) (qCons (qDisp (qPair (qVar 1) (qC (.s (.int 0))) qNil)) (qCons (qLst qNil) qNil))))
    (qSeq (qWhile (qT (qB qLt (qArgs qLen (qCons (qVar 5) qNil)) (qArgs qLen (qCons (qVar 3) qNil))))
    (qSeq (qAsg (qB qIx (qVar 2) (qB qIx (qVar 3) (qArgs qLen (qCons (qVar 5) qNil)))) (tT 3 (S3.tCons (tV 6) (S3.tCons (tV 7) (S3.tCons (tV 8) S3.tNil)))))
    (qSeq (qFor loopN (qOverL (qLst (qCons (qVar 7) (qCons (qVar 8) qNil)))) (tV 9)
    (qIfS (qT (qB (qDin true) (qVar 9) (qVar 4)))
    (qSeq (qStore (qArgs qLen (qCons (qVar 3) qNil)) (qVar 4) (qVar 9))
    (qDrop (qMeth mApp (qVar 3) (qCons (qVar 9) qNil))))
    qNop))
    (qDrop (qMeth mApp (qVar 5) (qCons (qTup (qCons (qVar 6) (qCons (qB qDget (qVar 4) (qVar 7)) (qCons (qB qDget (qVar 4) (qVar 8)) qNil)))) qNil))))) loopN)
    (qRet (qTup (qCons (qC (.s (.str "wood"))) (qCons (qVar 0) (qCons (qArgs qTuple (qCons (qVar 5) qNil)) qNil)))))))
def pd_numbered : PD := pdOf 10 q_numbered
theorem sd_numbered : SdD d_numbered pd_numbered := s_def ((s_seq (s_par (s_cons (s_lst (s_cons (s_var 1) s_nil)) (s_cons (s_disp (s_pair (s_var 1) (s_con fun _ _ => .int _) s_pairNil)) (s_cons (s_lst s_nil) s_nil))))
    (s_seq (s_while (s_asB (s_B op_lt5 (s_args op_len5 (s_cons (s_var 5) s_nil)) (s_args op_len5 (s_cons (s_var 3) s_nil))))
    (s_seq (s_asg (s_B op_ix5 (s_var 2) (s_B op_ix5 (s_var 3) (s_args op_len5 (s_cons (s_var 5) s_nil)))) (s_gTup 3 (s_gCons (s_gVar 6) (s_gCons (s_gVar 7) (s_gCons (s_gVar 8) s_gNil)))))
    (s_seq (s_for (s_overL (s_lst (s_cons (s_var 7) (s_cons (s_var 8) s_nil)))) (s_gVar 9)
    (s_ifS (s_asB (s_B op_din5 (s_var 9) (s_var 4)))
    (s_seq (s_sub (s_args op_len5 (s_cons (s_var 3) s_nil)) (s_var 4) (s_var 9))
    (s_drop (s_meth op_app5 (s_var 3) (s_cons (s_var 9) s_nil))))
    s_nop))
    (s_drop (s_meth op_app5 (s_var 5) (s_cons (s_tup (s_cons (s_var 6) (s_cons (s_B op_dget5 (s_var 4) (s_var 7)) (s_cons (s_B op_dget5 (s_var 4) (s_var 8)) s_nil)))) s_nil))))) loopN)
    (s_ret (s_tup (s_cons (s_con fun _ _ => .str _) (s_cons (s_var 0) (s_cons (s_args op_tuple5 (s_cons (s_var 5) s_nil)) s_nil))))))) : SdS f_numbered q_numbered)
/-- _law_place: 0 _law_draw, 1 _law_most, 2 _law_k -/
def q_place : PS := (qRet (qArgs qTuple (qCons (qLc loopN [2] (qOverR (qCons (qCallL 2 pd_take (qCons (qVar 0) (qCons (qB qAdd (qVar 1) (qC (.s (.int 1)))) qNil))) qNil)) (tV 2) (qC true) (qCallL 2 pd_take (qCons (qVar 0) (qCons (qC (.s (.int 2))) qNil)))) qNil)))
def pd_place : PD := pdOf 3 q_place
theorem sd_place : SdD d_place pd_place := s_def ((s_ret (s_args op_tuple5 (s_cons (s_lc (s_overR (s_cons (s_callL sd_take (s_cons (s_var 0) (s_cons (s_B op_add5 (s_var 1) (s_con fun _ _ => .int _)) s_nil))) s_nil)) (s_gVar 2) s_conB (s_callL sd_take (s_cons (s_var 0) (s_cons (s_con fun _ _ => .int _) s_nil))) (by decide)) s_nil))) : SdS f_place q_place)
/-- _law_bad_wood: 0 _law_draw, 1 _law_one, 2 _law_some -/
def q_bad_wood : PS := (qSeq (qSet 1 (qTup (qCons (qTup qNil) (qCons (qC (.s (.int 0))) (qCons (qC (.s (.int 0))) qNil)))))
    (qSeq (qSet 2 (qLst (qCons (qC (.s .non)) (qCons (qC (.s (.int 5))) (qCons (qC (.s (.str "wood"))) (qCons (qTup (qCons (qC (.s (.str "wood"))) (qCons (qTup qNil) qNil))) (qCons (qTup (qCons (qC (.s (.str "wood"))) (qCons (qTup qNil) (qCons (qTup qNil) qNil)))) (qCons (qTup (qCons (qC (.s (.str "wood"))) (qCons (qTup qNil) (qCons (qTup (qCons (qTup (qCons (qTup qNil) (qCons (qC (.s (.int 0))) (qCons (qC (.s (.int 1))) qNil)))) qNil)) qNil)))) (qCons (qTup (qCons (qC (.s (.str "wood"))) (qCons (qTup qNil) (qCons (qLst (qCons (qVar 1) qNil)) qNil)))) (qCons (qTup (qCons (qC (.s (.str "wood"))) (qCons (qTup (qCons (qC (.s (.str "a"))) (qCons (qC (.s (.str "a"))) qNil))) (qCons (qTup (qCons (qVar 1) qNil)) qNil)))) qNil))))))))))
    (qSeq (qSet 2 (qB qAdd (qVar 2) (qLst (qCons (qTup (qCons (qC (.s (.str "wood"))) (qCons (qTup (qCons (qC (.s (.str "b"))) (qCons (qC (.s (.str "a"))) qNil))) (qCons (qTup (qCons (qVar 1) qNil)) qNil)))) (qCons (qTup (qCons (qC (.s (.str "wood"))) (qCons (qTup (qCons (qC (.s (.str "a"))) (qCons (qC (.s (.str "b"))) (qCons (qC (.s (.str "c"))) (qCons (qC (.s (.str "d"))) qNil))))) (qCons (qTup (qCons (qVar 1) qNil)) qNil)))) (qCons (qTup (qCons (qC (.s (.str "wood"))) (qCons (qTup (qCons (qC (.s (.str "a"))) qNil)) (qCons (qTup (qCons (qTup (qCons (qTup (qCons (qC (.s (.str "b"))) qNil)) (qCons (qC (.s (.int 0))) (qCons (qC (.s (.int 0))) qNil)))) qNil)) qNil)))) qNil))))))
    (qSeq (qSet 2 (qB qAdd (qVar 2) (qLst (qCons (qTup (qCons (qC (.s (.str "wood"))) (qCons (qTup qNil) (qCons (qTup (qCons (qTup (qCons (qC (.s (.int 0))) (qCons (qC (.s (.int 0))) qNil))) qNil)) qNil)))) (qCons (qTup (qCons (qC (.s (.str "wood"))) (qCons (qTup qNil) (qCons (qTup (qCons (qTup (qCons (qTup qNil) (qCons (qC (.s (.int 0))) (qCons (qC (.s (.bl true))) qNil)))) qNil)) qNil)))) (qCons (qTup (qCons (qC (.s (.str "woods"))) (qCons (qTup qNil) (qCons (qTup (qCons (qVar 1) qNil)) qNil)))) (qCons (qLst (qCons (qC (.s (.str "wood"))) (qCons (qTup qNil) (qCons (qTup (qCons (qVar 1) qNil)) qNil)))) (qCons (qTup (qCons (qC (.s (.str "wood"))) (qCons (qTup qNil) (qCons (qTup (qCons (qTup (qCons (qTup qNil) (qCons (qU qNeg (qC (.s (.int 1)))) (qCons (qC (.s (.int 0))) qNil)))) qNil)) qNil)))) qNil))))))))
    (qRet (qCallL 2 pd_pick (qCons (qVar 0) (qCons (qB qAdd (qVar 2) (qLst (qCons (qTup (qCons (qC (.s (.str "wood"))) (qCons (qTup (qCons (qC (.s (.str "A"))) qNil)) (qCons (qTup (qCons (qVar 1) qNil)) qNil)))) (qCons (qTup (qCons (qC (.s (.str "wood"))) (qCons (qTup (qCons (qC (.s (.str "a"))) qNil)) (qCons (qTup (qCons (qTup (qCons (qLst (qCons (qC (.s (.str "a"))) qNil)) (qCons (qC (.s (.int 0))) (qCons (qC (.s (.int 0))) qNil)))) qNil)) qNil)))) (qCons (qTup (qCons (qC (.s (.str "wood"))) (qCons (qTup qNil) (qCons (qTup (qCons (qTup (qCons (qTup qNil) (qCons (qC (.s (.int 0))) (qCons (qC (.s (.int 0))) (qCons (qC (.s (.int 0))) qNil))))) qNil)) qNil)))) qNil))))) qNil))))))))
def pd_bad_wood : PD := pdOf 3 q_bad_wood
theorem sd_bad_wood : SdD d_bad_wood pd_bad_wood := s_def ((s_seq (s_set (s_tup (s_cons (s_tup s_nil) (s_cons (s_con fun _ _ => .int _) (s_cons (s_con fun _ _ => .int _) s_nil)))))
    (s_seq (s_set (s_lst (s_cons (s_con fun _ _ => .non) (s_cons (s_con fun _ _ => .int _) (s_cons (s_con fun _ _ => .str _) (s_cons (s_tup (s_cons (s_con fun _ _ => .str _) (s_cons (s_tup s_nil) s_nil))) (s_cons (s_tup (s_cons (s_con fun _ _ => .str _) (s_cons (s_tup s_nil) (s_cons (s_tup s_nil) s_nil)))) (s_cons (s_tup (s_cons (s_con fun _ _ => .str _) (s_cons (s_tup s_nil) (s_cons (s_tup (s_cons (s_tup (s_cons (s_tup s_nil) (s_cons (s_con fun _ _ => .int _) (s_cons (s_con fun _ _ => .int _) s_nil)))) s_nil)) s_nil)))) (s_cons (s_tup (s_cons (s_con fun _ _ => .str _) (s_cons (s_tup s_nil) (s_cons (s_lst (s_cons (s_var 1) s_nil)) s_nil)))) (s_cons (s_tup (s_cons (s_con fun _ _ => .str _) (s_cons (s_tup (s_cons (s_con fun _ _ => .str _) (s_cons (s_con fun _ _ => .str _) s_nil))) (s_cons (s_tup (s_cons (s_var 1) s_nil)) s_nil)))) s_nil))))))))))
    (s_seq (s_set (s_B op_add5 (s_var 2) (s_lst (s_cons (s_tup (s_cons (s_con fun _ _ => .str _) (s_cons (s_tup (s_cons (s_con fun _ _ => .str _) (s_cons (s_con fun _ _ => .str _) s_nil))) (s_cons (s_tup (s_cons (s_var 1) s_nil)) s_nil)))) (s_cons (s_tup (s_cons (s_con fun _ _ => .str _) (s_cons (s_tup (s_cons (s_con fun _ _ => .str _) (s_cons (s_con fun _ _ => .str _) (s_cons (s_con fun _ _ => .str _) (s_cons (s_con fun _ _ => .str _) s_nil))))) (s_cons (s_tup (s_cons (s_var 1) s_nil)) s_nil)))) (s_cons (s_tup (s_cons (s_con fun _ _ => .str _) (s_cons (s_tup (s_cons (s_con fun _ _ => .str _) s_nil)) (s_cons (s_tup (s_cons (s_tup (s_cons (s_tup (s_cons (s_con fun _ _ => .str _) s_nil)) (s_cons (s_con fun _ _ => .int _) (s_cons (s_con fun _ _ => .int _) s_nil)))) s_nil)) s_nil)))) s_nil))))))
    (s_seq (s_set (s_B op_add5 (s_var 2) (s_lst (s_cons (s_tup (s_cons (s_con fun _ _ => .str _) (s_cons (s_tup s_nil) (s_cons (s_tup (s_cons (s_tup (s_cons (s_con fun _ _ => .int _) (s_cons (s_con fun _ _ => .int _) s_nil))) s_nil)) s_nil)))) (s_cons (s_tup (s_cons (s_con fun _ _ => .str _) (s_cons (s_tup s_nil) (s_cons (s_tup (s_cons (s_tup (s_cons (s_tup s_nil) (s_cons (s_con fun _ _ => .int _) (s_cons (s_con fun _ _ => .bl _) s_nil)))) s_nil)) s_nil)))) (s_cons (s_tup (s_cons (s_con fun _ _ => .str _) (s_cons (s_tup s_nil) (s_cons (s_tup (s_cons (s_var 1) s_nil)) s_nil)))) (s_cons (s_lst (s_cons (s_con fun _ _ => .str _) (s_cons (s_tup s_nil) (s_cons (s_tup (s_cons (s_var 1) s_nil)) s_nil)))) (s_cons (s_tup (s_cons (s_con fun _ _ => .str _) (s_cons (s_tup s_nil) (s_cons (s_tup (s_cons (s_tup (s_cons (s_tup s_nil) (s_cons (s_U op_neg5 (s_con fun _ _ => .int _)) (s_cons (s_con fun _ _ => .int _) s_nil)))) s_nil)) s_nil)))) s_nil))))))))
    (s_ret (s_callL sd_pick (s_cons (s_var 0) (s_cons (s_B op_add5 (s_var 2) (s_lst (s_cons (s_tup (s_cons (s_con fun _ _ => .str _) (s_cons (s_tup (s_cons (s_con fun _ _ => .str _) s_nil)) (s_cons (s_tup (s_cons (s_var 1) s_nil)) s_nil)))) (s_cons (s_tup (s_cons (s_con fun _ _ => .str _) (s_cons (s_tup (s_cons (s_con fun _ _ => .str _) s_nil)) (s_cons (s_tup (s_cons (s_tup (s_cons (s_lst (s_cons (s_con fun _ _ => .str _) s_nil)) (s_cons (s_con fun _ _ => .int _) (s_cons (s_con fun _ _ => .int _) s_nil)))) s_nil)) s_nil)))) (s_cons (s_tup (s_cons (s_con fun _ _ => .str _) (s_cons (s_tup s_nil) (s_cons (s_tup (s_cons (s_tup (s_cons (s_tup s_nil) (s_cons (s_con fun _ _ => .int _) (s_cons (s_con fun _ _ => .int _) (s_cons (s_con fun _ _ => .int _) s_nil))))) s_nil)) s_nil)))) s_nil))))) s_nil)))))))) : SdS f_bad_wood q_bad_wood)
/-- _law_bad_place: 0 _law_draw -/
def q_bad_place : PS := (qRet (qCallL 2 pd_pick (qCons (qVar 0) (qCons (qLst (qCons (qC (.s .non)) (qCons (qC (.s (.int 5))) (qCons (qLst (qCons (qC (.s (.int 0))) qNil)) (qCons (qTup (qCons (qC (.s (.int 2))) qNil)) (qCons (qTup (qCons (qC (.s (.bl true))) qNil)) (qCons (qC (.s (.str "01"))) (qCons (qTup (qCons (qU qNeg (qC (.s (.int 1)))) qNil)) (qCons (qTup (qCons (qC (.s (.int 0))) (qCons (qC (.s (.str "1"))) qNil))) (qCons (qTup (qCons (qTup (qCons (qC (.s (.int 0))) qNil)) qNil)) qNil)))))))))) qNil))))
def pd_bad_place : PD := pdOf 1 q_bad_place
theorem sd_bad_place : SdD d_bad_place pd_bad_place := s_def ((s_ret (s_callL sd_pick (s_cons (s_var 0) (s_cons (s_lst (s_cons (s_con fun _ _ => .non) (s_cons (s_con fun _ _ => .int _) (s_cons (s_lst (s_cons (s_con fun _ _ => .int _) s_nil)) (s_cons (s_tup (s_cons (s_con fun _ _ => .int _) s_nil)) (s_cons (s_tup (s_cons (s_con fun _ _ => .bl _) s_nil)) (s_cons (s_con fun _ _ => .str _) (s_cons (s_tup (s_cons (s_U op_neg5 (s_con fun _ _ => .int _)) s_nil)) (s_cons (s_tup (s_cons (s_con fun _ _ => .int _) (s_cons (s_con fun _ _ => .str _) s_nil))) (s_cons (s_tup (s_cons (s_tup (s_cons (s_con fun _ _ => .int _) s_nil)) s_nil)) s_nil)))))))))) s_nil)))) : SdS f_bad_place q_bad_place)
/-- law: 0 _law_script, 1 _law_draw, 2 _law_turn, 3 _law_lap, 4 _law_place_here, 5 _law_node, 6 _law_due, 7 _law_bad, 8 _law_off, 9 _law_wood_here, 10 _law_work -/
def q_main : PS := (qSeq (qSet 1 (qCall 1 pd_begun (qCons (qVar 0) qNil)))
    (qSeq (qFor loopN (qOverR (qCons (qB qAdd (qC (.s (.int 3))) (qArgs qMin (qCons (qArgs qLen (qCons (qVar 0) qNil)) (qCons (qC (.s (.int 9))) qNil)))) qNil)) (tV 2)
    (qSeq (qSet 9 (qCallL 3 pd_wood (qCons (qVar 1) (qCons (qCallL 2 pd_scope (qCons (qVar 1) (qCons (qC (.s (.int 3))) qNil))) (qCons (qC (.s (.int 6))) qNil)))))
    (qSeq (qFor loopN (qOverR (qCons (qC (.s (.int 4))) qNil)) (tV 3)
    (qSeq (qSet 4 (qCallL 2 pd_place (qCons (qVar 1) (qCons (qC (.s (.int 40))) qNil))))
    (qSeq (qSet 5 (qCall 2 pd_at (qCons (qVar 9) (qCons (qVar 4) qNil))))
    (qSeq (qSet 6 (qCall 3 pd_numbered (qCons (qB qIx (qVar 9) (qC (.s (.int 1)))) (qCons (qVar 5) (qCons (qB qIx (qVar 9) (qC (.s (.int 2)))) qNil)))))
    (qSeq (qIfS (qT (qB qNe (qArgs qRepr (qCons (qLst (qCons (qCall 2 pd_p_node_at (qCons (qVar 9) (qCons (qVar 4) qNil))) (qCons (qCallK [1, 0] pd_p_node_at (qCons (qVar 4) (qCons (qVar 9) qNil))) qNil))) qNil)) (qArgs qRepr (qCons (qLst (qCons (qVar 5) (qCons (qVar 5) qNil))) qNil))))
    (qRet (qC (.s (.bl false))))
    qNop)
    (qIfS (qT (qB qNe (qArgs qRepr (qCons (qLst (qCons (qCall 2 pd_p_within (qCons (qVar 9) (qCons (qVar 4) qNil))) (qCons (qCallK [1, 0] pd_p_within (qCons (qVar 4) (qCons (qVar 9) qNil))) qNil))) qNil)) (qArgs qRepr (qCons (qLst (qCons (qVar 6) (qCons (qVar 6) qNil))) qNil))))
    (qRet (qC (.s (.bl false))))
    qNop))))))
    (qSeq (qPar [7, 8] (qCons (qCallL 1 pd_bad_wood (qCons (qVar 1) qNil)) (qCons (qCallL 1 pd_bad_place (qCons (qVar 1) qNil)) qNil)))
    (qFor loopN (qOverL (qLst (qCons (qC (.s (.fn 0))) (qCons (qC (.s (.fn 1))) qNil)))) (tV 10)
    (qSeq (qIfS (qNot (qT (qArgs (qIsV tab) (qCons (qCaught (qCallV 10 pft_p_node_at_p_within (qCons (qVar 7) (qCons (qVar 8) qNil)))) (qCons (qC (.s (.cl 2))) qNil)))))
    (qRet (qC (.s (.bl false))))
    qNop)
    (qIfS (qNot (qT (qArgs (qIsV tab) (qCons (qCaught (qCallV 10 pft_p_node_at_p_within (qCons (qVar 9) (qCons (qVar 8) qNil)))) (qCons (qC (.s (.cl 1))) qNil)))))
    (qRet (qC (.s (.bl false))))
    qNop)))))))
    (qRet (qC (.s (.bl true))))))
def pd_main : PD := pdOf 11 q_main
theorem sd_main : SdD d_main pd_main := s_def ((s_seq (s_set (s_call sd_begun (s_cons (s_var 0) s_nil)))
    (s_seq (s_for (s_overR (s_cons (s_B op_add5 (s_con fun _ _ => .int _) (s_args op_min5 (s_cons (s_args op_len5 (s_cons (s_var 0) s_nil)) (s_cons (s_con fun _ _ => .int _) s_nil)))) s_nil)) (s_gVar 2)
    (s_seq (s_set (s_callL sd_wood (s_cons (s_var 1) (s_cons (s_callL sd_scope (s_cons (s_var 1) (s_cons (s_con fun _ _ => .int _) s_nil))) (s_cons (s_con fun _ _ => .int _) s_nil)))))
    (s_seq (s_for (s_overR (s_cons (s_con fun _ _ => .int _) s_nil)) (s_gVar 3)
    (s_seq (s_set (s_callL sd_place (s_cons (s_var 1) (s_cons (s_con fun _ _ => .int _) s_nil))))
    (s_seq (s_set (s_call sd_at (s_cons (s_var 9) (s_cons (s_var 4) s_nil))))
    (s_seq (s_set (s_call sd_numbered (s_cons (s_B op_ix5 (s_var 9) (s_con fun _ _ => .int _)) (s_cons (s_var 5) (s_cons (s_B op_ix5 (s_var 9) (s_con fun _ _ => .int _)) s_nil)))))
    (s_seq (s_ifS (s_asB (s_B op_ne5 (s_args op_repr5 (s_cons (s_lst (s_cons (s_call sd_p_node_at (s_cons (s_var 9) (s_cons (s_var 4) s_nil))) (s_cons (s_callK sd_p_node_at (s_cons (s_var 4) (s_cons (s_var 9) s_nil))) s_nil))) s_nil)) (s_args op_repr5 (s_cons (s_lst (s_cons (s_var 5) (s_cons (s_var 5) s_nil))) s_nil))))
    (s_ret (s_con fun _ _ => .bl _))
    s_nop)
    (s_ifS (s_asB (s_B op_ne5 (s_args op_repr5 (s_cons (s_lst (s_cons (s_call sd_p_within (s_cons (s_var 9) (s_cons (s_var 4) s_nil))) (s_cons (s_callK sd_p_within (s_cons (s_var 4) (s_cons (s_var 9) s_nil))) s_nil))) s_nil)) (s_args op_repr5 (s_cons (s_lst (s_cons (s_var 6) (s_cons (s_var 6) s_nil))) s_nil))))
    (s_ret (s_con fun _ _ => .bl _))
    s_nop))))))
    (s_seq (s_parT (is := [7, 8]) (s_cons (s_callL sd_bad_wood (s_cons (s_var 1) s_nil)) (s_cons (s_callL sd_bad_place (s_cons (s_var 1) s_nil)) s_nil)) (Nat.le_of_ble_eq_true rfl))
    (s_for (s_overL (s_lst (s_cons (s_con fun _ _ => .fn _) (s_cons (s_con fun _ _ => .fn _) s_nil)))) (s_gVar 10)
    (s_seq (s_ifS (s_not (s_asB (s_args op_isV5 (s_cons (s_caught (s_callV sft_p_node_at_p_within (s_cons (s_var 7) (s_cons (s_var 8) s_nil)))) (s_cons (s_con fun _ _ => .cl _) s_nil)))))
    (s_ret (s_con fun _ _ => .bl _))
    s_nop)
    (s_ifS (s_not (s_asB (s_args op_isV5 (s_cons (s_caught (s_callV sft_p_node_at_p_within (s_cons (s_var 9) (s_cons (s_var 8) s_nil)))) (s_cons (s_con fun _ _ => .cl _) s_nil)))))
    (s_ret (s_con fun _ _ => .bl _))
    s_nop)))))))
    (s_ret (s_con fun _ _ => .bl _)))) : SdS f_main q_main)
end L_k01

set_option maxHeartbeats 4000000
/-! M1: the judges at good woods. -/
namespace L_k01
open PySem PyProof.Rows L2 S3
theorem dat_int {i : Int} : pdat64 (.int i) = some (.int i) := by
  simp [pdat64, pdat, SeqAt.shaped, PyData.canLay0, PyData.depth]
theorem dat_str {i : Str} (h : PyData.strOk i = true) : pdat64 (.str i) = some (.str i) := by
  simp [pdat64, pdat, SeqAt.shaped, PyData.canLay0, PyData.depth, h]
theorem ne_int {i j : Int} : qNe (.int i, .int j) = some (false, .bl (!decide (i = j))) := by
  unfold qNe
  rw [dat_int, dat_int]
  rfl
theorem ne_str {i j : Str} (hi : PyData.strOk i = true) (hj : PyData.strOk j = true) : qNe (.str i, .str j) = some (false, .bl (!decide (i = j))) := by
  unfold qNe
  rw [dat_str hi, dat_str hj]
  rfl
theorem small8 {n : Nat} (h : n ≤ 1000) : n ≤ sizeLine := Nat.le_trans h (by decide)
theorem lt_lp {n : Nat} (h : n ≤ 1000) : n < loopN := Nat.lt_of_le_of_lt h (by decide)
def numP (x : P) (e : Int) : Bool := match x with
  | .int i => decide (0 ≤ i) && decide (i < e)
  | _ => false
theorem num_int {i e : Int} : EvD pd_p_is_number [.sh (.int i), .sh (.int e)] (.ok (false, .bl (decide (0 ≤ i) && decide (i < e)))) [.sh (.int i), .sh (.int e)] := by
  refine evD_of (pe' := [.sh (.int i), .sh (.int e)]) (evS_ret (ev_andV (a := true) (fun K h => h) fun _ => ev_andV (a := true) (fun K h => h) fun _ => ?_))
  exact ev_chain (v1 := .int 0) (fun K h => h) (fun K h => h) rfl fun _ => ⟨fun K h => h, rfl⟩
def smallS : Str := "abcdefghijklmnopqrstuvwxyz"
def keptB (x : Str) : Bool := inV (.str x) (ks_KEPT.map V.str)
def smallB (k : Nat) : Bool := decide (k ∈ smallS.cps.toList)
def nameB (x : Str) : Bool := (decide ((1 : Int) ≤ x.length) && decide ((x.length : Int) ≤ 8)) && !keptB x && x.cps.toList.all smallB
theorem name_str {x : Str} (hx : x.length ≤ 1000) : EvD pd_p_is_name [.sh (.str x)] (.ok (false, .bl (nameB x))) [.sh (.str x)] := by
  refine evD_of (pe' := [.sh (.str x), .no]) ?_
  have hl : Ev (qArgs qLen (qCons (qVar 0) qNil)) [.sh (.str x), .no] (.s (.int x.length)) [.sh (.str x), .no] := ev_arg (v := .str x) (fun K h => h) (if_pos (small8 hx))
  have hc : Ev (qChain qLe qLe (qC (.s (.int 1))) (qArgs qLen (qCons (qVar 0) qNil)) (qC (.s (.int 8)))) [.sh (.str x), .no] (.s (.bl (decide ((1 : Int) ≤ x.length) && decide ((x.length : Int) ≤ 8)))) [.sh (.str x), .no] := ev_chain (fun K h => h) hl rfl fun _ => ⟨fun K h => h, rfl⟩
  have hk : Ev (qB (qIn false) (qVar 0) (qC (.s (.tcon (ks_KEPT.map P.str))))) [.sh (.str x), .no] (.s (.bl (keptB x))) [.sh (.str x), .no] := ev_BS (v1 := .str x) (fun K h => h) (fun K h => h) rfl
  refine evS_guard (b := !(decide ((1 : Int) ≤ x.length) && decide ((x.length : Int) ≤ 8)) || keptB x) (ev_or (a := false) (ev_not (ev_TS (b := true) fun K h => h)) fun _ => ev_or (ev_not (ev_TS hc)) fun _ => ev_TS hk) (fun e => ⟨?_, fun z => by cases z⟩) fun e => ?_
  · have : nameB x = false := by
      unfold nameB
      rcases Bool.or_eq_true_iff.mp e with z | z
      · have z2 : (decide ((1 : Int) ≤ x.length) && decide ((x.length : Int) ≤ 8)) = false := by simpa only [Bool.not_eq_true'] using z
        rw [z2]
        rfl
      · rw [z]
        simp
    rw [this]
    exact evS_ret fun K h => h
  · have e2 : (decide ((1 : Int) ≤ x.length) && decide ((x.length : Int) ≤ 8)) = true ∧ keptB x = false := by
      rw [Bool.or_eq_false_iff] at e
      exact ⟨by simpa only [Bool.not_eq_false'] using e.1, e.2⟩
    have hn : nameB x = x.cps.toList.all smallB := by
      unfold nameB
      rw [e2.1, e2.2]
      rfl
    rw [hn]
    refine evS_ret ?_
    have := ev_allC (n := loopN) (vs := [1]) (ps := qOverS (qVar 0)) (t := tV 1) (qe := qB (qInS false) (qVar 1) (qC (.s (.str "abcdefghijklmnopqrstuvwxyz")))) (pe := [.sh (.str x), .no]) (pe1 := [.sh (.str x), .no]) (pe2 := [.sh (.str x), .no]) (items := x.cps.toList.map fun k => .str ⟨#[k]⟩) (fun p => match p with
      | .str s => match s.cps.toList with
        | [k] => smallB k
        | _ => false
      | _ => false) (ev_over (v := .str x) (fun K h => h) rfl rfl) (by rw [List.length_map]; exact lt_lp hx) (by rw [List.length_map]; exact small8 hx) rfl rfl fun y hy => ?_
    · rw [List.all_map] at this
      exact this
    · obtain ⟨k, _, rfl⟩ := List.mem_map.mp hy
      exact ⟨_, rfl, rfl, ev_BS (v1 := .str ⟨#[k]⟩) (fun K h => h) (fun K h => h) rfl⟩
/-- an ascending row -/
def ascB : List Str → Bool
  | x :: y :: r => decide (x.cps.toList < y.cps.toList) && ascB (y :: r)
  | _ => true
def pairF (p : P) : Bool := match p with
  | .tup [.str a, .str b] => decide (a.cps.toList < b.cps.toList)
  | _ => false
theorem asc_zip : ∀ xs : List Str, (pzip (xs.map P.str) ((xs.map P.str).drop 1)).all pairF = ascB xs
  | [] => rfl
  | [x] => rfl
  | x :: y :: r => by
    have ih := asc_zip (y :: r)
    show (decide (x.cps.toList < y.cps.toList) && (pzip ((y :: r).map P.str) (((y :: r).map P.str).drop 1)).all pairF) = _
    rw [ih]
    rfl
theorem pzip_mem : ∀ {xs ys : List P} {p : P}, p ∈ pzip xs ys → ∃ a b, p = .tup [a, b] ∧ a ∈ xs ∧ b ∈ ys
  | [], _, _, h => by simp [pzip] at h
  | _ :: _, [], _, h => by simp [pzip] at h
  | x :: xs, y :: ys, p, h => by
    rcases List.mem_cons.mp (show p ∈ P.tup [x, y] :: pzip xs ys from h) with rfl | h
    · exact ⟨x, y, rfl, by simp, by simp⟩
    · obtain ⟨a, b, e, h1, h2⟩ := pzip_mem h
      exact ⟨a, b, e, by simp [h1], by simp [h2]⟩
theorem pzip_len : ∀ {xs ys : List P}, (pzip xs ys).length ≤ xs.length
  | [], _ => by simp [pzip]
  | _ :: _, [] => by simp [pzip]
  | x :: xs, y :: ys => by
    have := pzip_len (xs := xs) (ys := ys)
    simp [pzip]
    omega
theorem cut1 {α : Type} (xs : List α) : cut3 xs (some 1) none = xs.drop 1 := by
  unfold cut3
  have h1 : HT.sIx xs.length xs.length none = xs.length := rfl
  rw [h1]
  cases xs with
  | nil => simp
  | cons x r =>
    have h2 : HT.sIx (x :: r).length 0 (some 1) = 1 := by
      simp [HT.sIx]
      try omega
    rw [h2]
    simp
theorem names_tup {xs : List Str} (hl : xs.length ≤ 1000) (hx : ∀ x ∈ xs, x.length ≤ 1000) : EvD pd_p_are_names [.sh (.tup (xs.map P.str))] (.ok (false, .bl (xs.all nameB && ascB xs))) [.sh (.tup (xs.map P.str))] := by
  refine evD_of (pe' := [.sh (.tup (xs.map P.str)), .no, .no, .no]) ?_
  have ha := ev_allC (n := loopN) (vs := [3]) (ps := qOverT (qVar 0)) (t := tV 3) (qe := qCall 1 pd_p_is_name (qCons (qVar 3) qNil)) (pe := [.sh (.tup (xs.map P.str)), .no, .no, .no]) (pe1 := [.sh (.tup (xs.map P.str)), .no, .no, .no]) (pe2 := [.sh (.tup (xs.map P.str)), .no, .no, .no]) (items := xs.map P.str) (fun p => match p with
      | .str s => nameB s
      | _ => false) (ev_over (v := .tup (xs.map P.str)) (fun K h => h) rfl rfl) (by rw [List.length_map]; exact lt_lp hl) (by rw [List.length_map]; exact small8 hl) rfl rfl fun y hy => by
    obtain ⟨k, hk, rfl⟩ := List.mem_map.mp hy
    exact ⟨_, rfl, rfl, ev_call1 (v := .str k) (fun K h => h) (name_str (hx k hk))⟩
  rw [List.all_map] at ha
  have ha : Ev _ _ (Opd.s (.bl (xs.all nameB))) _ := ha
  refine evS_guard (b := !(xs.all nameB)) (ev_or (a := false) (ev_not (ev_TS (b := true) fun K h => h)) fun _ => ev_not (ev_TS ha)) (fun e => ⟨?_, fun z => by cases z⟩) fun e => ?_
  · have e : xs.all nameB = false := by simpa only [Bool.false_or, Bool.not_eq_true'] using e
    rw [e]
    exact evS_ret fun K h => h
  · have e : xs.all nameB = true := by simpa only [Bool.false_or, Bool.not_eq_false'] using e
    rw [e, Bool.true_and, ← asc_zip xs]
    have hsl : Ev (qSlice (qVar 0) (qI (qC (.s (.int 1)))) (qC none)) [.sh (.tup (xs.map P.str)), .no, .no, .no] (.s (.tup ((xs.map P.str).drop 1))) [.sh (.tup (xs.map P.str)), .no, .no, .no] := ev_sl (v := .tup (xs.map P.str)) (o := .s (.tup (xs.map P.str))) (fun K h => h) (ev_I fun K h => h) (fun K h => h) rfl (by
      show some (false, P.tup (cut3 (xs.map P.str) (some 1) none)) = _
      rw [cut1])
    refine evS_ret (ev_allC (vs := [1, 2]) (items := pzip (xs.map P.str) ((xs.map P.str).drop 1)) pairF (ev_overA (os := [.s (.tup (xs.map P.str)), .s (.tup ((xs.map P.str).drop 1))]) (ev_cons (fun K h => h) (ev_one hsl)) rfl rfl) ?_ ?_ rfl rfl fun y hy => ?_)
    · exact Nat.lt_of_le_of_lt pzip_len (by rw [List.length_map]; exact lt_lp hl)
    · exact Nat.le_trans pzip_len (by rw [List.length_map]; exact small8 hl)
    · obtain ⟨a, b, rfl, h1, h2⟩ := pzip_mem hy
      obtain ⟨s, _, rfl⟩ := List.mem_map.mp h1
      obtain ⟨s2, _, rfl⟩ := List.mem_map.mp (List.mem_of_mem_drop h2)
      exact ⟨_, rfl, rfl, ev_BS (v1 := .str s) (v2 := .str s2) (fun K h => h) (fun K h => h) rfl⟩
/-! ### woods -/
structure Wo where
  sc : List Str
  ns : List (List Str × Nat × Nat)
def pN (n : List Str × Nat × Nat) : P := .tup [.tup (n.1.map P.str), .int n.2.1, .int n.2.2]
def pW (w : Wo) : P := .tup [.str "wood", .tup (w.sc.map P.str), .tup (w.ns.map pN)]
structure GoodSc (sc : List Str) : Prop where
  len : sc.length ≤ 3
  sz : ∀ x ∈ sc, x.length ≤ 8
  nm : ∀ x ∈ sc, nameB x = true
  asc : ascB sc = true
structure GoodW (w : Wo) : Prop where
  sc : GoodSc w.sc
  l1 : 1 ≤ w.ns.length
  l2 : w.ns.length ≤ 400
  nd : ∀ n ∈ w.ns, GoodSc n.1 ∧ (∀ x ∈ n.1, x ∈ w.sc) ∧ n.2.1 < w.ns.length ∧ n.2.2 < w.ns.length
theorem names_good {sc : List Str} (h : GoodSc sc) : EvD pd_p_are_names [.sh (.tup (sc.map P.str))] (.ok (false, .bl true)) [.sh (.tup (sc.map P.str))] := by
  have := names_tup (xs := sc) (by have := h.len; omega) fun x hx => by have := h.sz x hx; omega
  rw [h.asc, List.all_eq_true.mpr h.nm] at this
  exact this
theorem scope_good {sc : List Str} (h : GoodSc sc) : EvD pd_p_is_scope [.sh (.tup (sc.map P.str))] (.ok (false, .bl true)) [.sh (.tup (sc.map P.str))] := by
  refine evD_of (pe' := [.sh (.tup (sc.map P.str))]) (evS_ret (ev_andV (a := true) (b := true) (ev_call1 (fun K h => h) (names_good h)) fun _ => ?_))
  have hl : Ev (qArgs qLen (qCons (qVar 0) qNil)) [.sh (.tup (sc.map P.str))] (.s (.int sc.length)) [.sh (.tup (sc.map P.str))] := ev_arg (v := .tup (sc.map P.str)) (fun K h => h) (by show some (false, P.int ((sc.map P.str).length : Nat)) = _; rw [List.length_map])
  refine ev_BS hl (v2 := .int 3) (fun K h => h) ?_
  show some (false, P.bl (decide ((sc.length : Int) ≤ 3))) = _
  rw [decide_eq_true (by have := h.len; omega)]
theorem num_lt {a n : Nat} (h : a < n) : EvD pd_p_is_number [.sh (.int a), .sh (.int n)] (.ok (false, .bl true)) [.sh (.int a), .sh (.int n)] := by
  have := num_int (i := a) (e := n)
  rw [decide_eq_true (by omega), decide_eq_true (by omega)] at this
  exact this
theorem psclA_strs : ∀ xs : List Str, psclA (xs.map P.str) = some (xs.map V.str)
  | [] => rfl
  | x :: r => by
    show (match (some (V.str x)), psclA (r.map P.str) with | some u, some us => some (u :: us) | _, _ => none) = _
    rw [psclA_strs r]
    rfl
theorem inV_strs {x : Str} : ∀ {xs : List Str}, x ∈ xs → inV (.str x) (xs.map V.str) = true
  | y :: r, h => by
    rcases List.mem_cons.mp h with rfl | h
    · simp [inV, eqV]
    · have := inV_strs h
      simp only [inV, List.map_cons, List.any_cons, Bool.or_eq_true] at this ⊢
      exact .inr this
theorem node_good {w : Wo} (g : GoodW w) {n : List Str × Nat × Nat} (hn : n ∈ w.ns) : EvD pd_p_is_node [.sh (pN n), .sh (.tup (w.sc.map P.str)), .sh (.int w.ns.length)] (.ok (false, .bl true)) [.sh (pN n), .sh (.tup (w.sc.map P.str)), .sh (.int w.ns.length)] := by
  obtain ⟨h1, h2, h3, h4⟩ := g.nd n hn
  obtain ⟨l, a, b⟩ := n
  have hl3 : l.length ≤ 3 := h1.len
  let pe : PEnv := [.sh (pN (l, a, b)), .sh (.tup (w.sc.map P.str)), .sh (.int w.ns.length), .no]
  have v0 : Ev (qVar 0) pe (.s (pN (l, a, b))) pe := fun K h => h
  have i0 : Ev (qB qIx (qVar 0) (qC (.s (.int 0)))) pe (.s (.tup (l.map P.str))) pe := ev_BS v0 (v2 := .int 0) (fun K h => h) rfl
  have i1 : Ev (qB qIx (qVar 0) (qC (.s (.int 1)))) pe (.s (.int a)) pe := ev_BS v0 (v2 := .int 1) (fun K h => h) rfl
  have i2 : Ev (qB qIx (qVar 0) (qC (.s (.int 2)))) pe (.s (.int b)) pe := ev_BS v0 (v2 := .int 2) (fun K h => h) rfl
  refine evD_of (pe' := pe) ?_
  refine evS_guard (b := false) (ev_or (a := false) (ev_not (ev_TS (b := true) fun K h => h)) fun _ => ev_or (a := false) (ev_TS (ev_BS (v1 := .int 3) (v2 := .int 3) (ev_arg v0 rfl) (fun K h => h) ne_int)) fun _ => ev_not (b := true) (ev_TS (ev_call1 i0 (names_good h1)))) (fun e => by cases e) fun _ => ?_
  have hall := ev_allC (n := loopN) (vs := [3]) (t := tV 3) (qe := qB (qIn false) (qVar 3) (qVar 1)) (pe := pe) (pe1 := pe) (pe2 := pe) (items := l.map P.str) (fun p => match p with
      | .str s => inV (.str s) (w.sc.map V.str)
      | _ => false) (ev_over (f := pseqT) (v := .tup (l.map P.str)) i0 rfl rfl) (by rw [List.length_map]; exact lt_lp (by omega)) (by rw [List.length_map]; exact small8 (by omega)) rfl rfl fun y hy => by
    obtain ⟨s, hs, rfl⟩ := List.mem_map.mp hy
    refine ⟨_, rfl, rfl, ev_BS (v1 := .str s) (v2 := .tup (w.sc.map P.str)) (fun K h => h) (fun K h => h) ?_⟩
    show (match psclA (w.sc.map P.str) with | some us => some (false, P.bl (inV (.str s) us)) | none => none) = _
    rw [psclA_strs]
  rw [List.all_map] at hall
  have hall : Ev _ _ (Opd.s (.bl (l.all fun s => inV (.str s) (w.sc.map V.str)))) _ := hall
  rw [List.all_eq_true.mpr fun x hx => inV_strs (h2 x hx)] at hall
  exact evS_ret (ev_andV (a := true) (b := true) hall fun _ => ev_andV (a := true) (b := true) (ev_call2 i1 (fun K h => h) (num_lt h3)) fun _ => ev_call2 i2 (fun K h => h) (num_lt h4))
theorem wood_good {w : Wo} (g : GoodW w) : EvD pd_p_is_wood [.sh (pW w)] (.ok (false, .bl true)) [.sh (pW w)] := by
  let pe : PEnv := [.sh (pW w), .no]
  have v0 : Ev (qVar 0) pe (.s (pW w)) pe := fun K h => h
  have i1 : Ev (qB qIx (qVar 0) (qC (.s (.int 1)))) pe (.s (.tup (w.sc.map P.str))) pe := ev_BS v0 (v2 := .int 1) (fun K h => h) rfl
  have i2 : Ev (qB qIx (qVar 0) (qC (.s (.int 2)))) pe (.s (.tup (w.ns.map pN))) pe := ev_BS v0 (v2 := .int 2) (fun K h => h) rfl
  have l2 : Ev (qArgs qLen (qCons (qB qIx (qVar 0) (qC (.s (.int 2)))) qNil)) pe (.s (.int w.ns.length)) pe := ev_arg i2 (by show some (false, P.int ((w.ns.map pN).length : Nat)) = _; rw [List.length_map])
  have g1 := g.l1
  have g2 := g.l2
  have hc : Ev (qChain qLe qLe (qC (.s (.int 1))) (qArgs qLen (qCons (qB qIx (qVar 0) (qC (.s (.int 2)))) qNil)) (qC (.s (.int 400)))) pe (.s (.bl (true && true))) pe := ev_chain (fun K h => h) l2 (by show some (false, P.bl (decide ((1 : Int) ≤ w.ns.length))) = _; rw [decide_eq_true (by omega)]) fun _ => ⟨fun K h => h, by show some (false, P.bl (decide ((w.ns.length : Int) ≤ 400))) = _; rw [decide_eq_true (by omega)]⟩
  refine evD_of (pe' := pe) ?_
  have i0 : Ev (qB qIx (qVar 0) (qC (.s (.int 0)))) pe (.s (.str "wood")) pe := ev_BS v0 (v2 := .int 0) (fun K h => h) rfl
  refine evS_guard (b := false) (ev_or (a := false) (ev_not (b := true) (ev_TS fun K h => h)) fun _ => ev_or (a := false) (ev_TS (ev_BS (v1 := .int 3) (v2 := .int 3) (ev_arg v0 rfl) (fun K h => h) ne_int)) fun _ => ev_or (a := false) (ev_not (b := true) (ev_TS (ev_args (ev_cons i0 (ev_one ev_c)) rfl rfl))) fun _ => ev_TS (ev_BS i0 (v2 := .str "wood") (fun K h => h) (by rw [ne_str (by decide +kernel) (by decide +kernel), decide_eq_true rfl]; rfl))) (fun e => by cases e) fun _ => ?_
  refine evS_guard (b := false) (ev_or (a := false) (ev_not (b := true) (ev_TS (ev_call1 i1 (scope_good g.sc)))) fun _ => ev_or (a := false) (ev_not (b := true) (ev_TS (ev_args (ev_cons i2 (ev_one ev_c)) rfl rfl))) fun _ => ev_not (b := true) (ev_TS hc)) (fun e => by cases e) fun _ => ?_
  have hall := ev_allC (n := loopN) (vs := [1]) (t := tV 1) (qe := qCall 3 pd_p_is_node (qCons (qVar 1) (qCons (qB qIx (qVar 0) (qC (.s (.int 1)))) (qCons (qArgs qLen (qCons (qB qIx (qVar 0) (qC (.s (.int 2)))) qNil)) qNil)))) (pe := pe) (pe1 := pe) (pe2 := pe) (items := w.ns.map pN) (fun _ => true) (ev_over (f := pseqT) (v := .tup (w.ns.map pN)) i2 rfl rfl) (by rw [List.length_map]; exact lt_lp (by omega)) (by rw [List.length_map]; exact small8 (by omega)) rfl rfl fun y hy => by
    obtain ⟨n, hn, rfl⟩ := List.mem_map.mp hy
    have vw : Ev (qVar 0) [.sh (pW w), .sh (pN n)] (.s (pW w)) [.sh (pW w), .sh (pN n)] := fun K h => h
    have j1 : Ev (qB qIx (qVar 0) (qC (.s (.int 1)))) [.sh (pW w), .sh (pN n)] (.s (.tup (w.sc.map P.str))) [.sh (pW w), .sh (pN n)] := ev_BS vw (v2 := .int 1) (fun K h => h) rfl
    have j2 : Ev (qB qIx (qVar 0) (qC (.s (.int 2)))) [.sh (pW w), .sh (pN n)] (.s (.tup (w.ns.map pN))) [.sh (pW w), .sh (pN n)] := ev_BS vw (v2 := .int 2) (fun K h => h) rfl
    have j3 : Ev (qArgs qLen (qCons (qB qIx (qVar 0) (qC (.s (.int 2)))) qNil)) [.sh (pW w), .sh (pN n)] (.s (.int w.ns.length)) [.sh (pW w), .sh (pN n)] := ev_arg j2 (by show some (false, P.int ((w.ns.map pN).length : Nat)) = _; rw [List.length_map])
    exact ⟨_, rfl, rfl, ev_call3 (fun K h => h) j1 j3 (node_good g hn)⟩
  have e1 : (w.ns.map pN).all (fun _ => true) = true := by simp
  rw [e1] at hall
  exact evS_ret hall
theorem need_wood_good {w : Wo} (g : GoodW w) : EvD pd_p_need_wood [.sh (pW w)] (.ok (false, .non)) [.sh (pW w)] := evD_nx (pe' := [.sh (pW w)]) (evS_if (b := false) (ev_not (b := true) (ev_TS (ev_call1 (fun K h => h) (wood_good g)))) (fun e => by cases e) fun _ K h => h)
end L_k01

set_option maxHeartbeats 4000000
/-! M2: names and scopes drawn. -/
namespace L_k01
open PySem PyProof.Rows L2 S3
def ch (k : Nat) : Str := ⟨#[k]⟩
def sons : Str := "bcdfghklmnprstvwxz"
def vows : Str := "aeiou"
def stemsOf (c : Nat) : List Str := vows.cps.toList.map fun v => ch c ++ ch v
def stems : List Str := sons.cps.toList.flatMap stemsOf
def sufs : List Str := ["q", "k", "x", "mu"]
def allNames : List Str := stems.flatMap fun s => sufs.map fun e => s ++ e
theorem all_ok : allNames.all (fun x => nameB x && decide (x.length ≤ 8) && PyData.strOk x && PyData.strOk (PyData.str x).shown && decide ((PyData.str x).shown.length ≤ 10)) = true := by decide +kernel
theorem stems_ok : stems.all (fun x => PyData.strOk x && PyData.strOk (PyData.str x).shown && decide ((PyData.str x).shown.length ≤ 10) && decide (x.cps.toList.length = 2) && decide (x.length ≤ 8)) = true := by decide +kernel
theorem stems_nd : (stems.map fun x => x.cps.toList).Nodup := by decide +kernel
theorem stems_len : stems.length = 90 := by decide +kernel
theorem sons_len : sons.cps.toList.length = 18 := by decide +kernel
theorem vows_len : vows.cps.toList.length = 5 := by decide +kernel
structure NmOk (x : Str) : Prop where
  nm : nameB x = true
  sz : x.length ≤ 8
  ok : PyData.strOk x = true
  sh : Sh 10 (PyData.str x).shown
theorem nm_ok {x : Str} (h : x ∈ allNames) : NmOk x := by
  have := List.all_eq_true.mp all_ok x h
  simp only [Bool.and_eq_true, decide_eq_true_eq] at this
  obtain ⟨⟨⟨⟨h1, h2⟩, h3⟩, h4⟩, h5⟩ := this
  exact ⟨h1, h2, h3, h4, h5⟩
theorem stem_rp {x : Str} (h : x ∈ stems) : ∃ d, Rp (.str x) 10 1 d := by
  have := List.all_eq_true.mp stems_ok x h
  simp only [Bool.and_eq_true, decide_eq_true_eq] at this
  obtain ⟨⟨⟨⟨h1, h2⟩, h3⟩, _⟩, _⟩ := this
  exact ⟨_, rp_str h1 ⟨h2, h3⟩⟩
theorem stem_two {x : Str} (h : x ∈ stems) : x.cps.toList.length = 2 := by
  have := List.all_eq_true.mp stems_ok x h
  simp only [Bool.and_eq_true, decide_eq_true_eq] at this
  exact this.1.2
def st2 (x : Str) : List Nat := x.cps.toList.take 2
theorem cps_app (a b : Str) : (a ++ b).cps.toList = a.cps.toList ++ b.cps.toList := by
  show (a.cps ++ b.cps).toList = _
  rw [Array.toList_append]
theorem st2_app {x e : Str} (h : x ∈ stems) : st2 (x ++ e) = x.cps.toList := by
  unfold st2
  rw [cps_app, List.take_append_of_le_length (by rw [stem_two h]; omega), List.take_of_length_le (by rw [stem_two h]; omega)]
theorem nodup_of_map {α β : Type} {f : α → β} {l : List α} (h : (l.map f).Nodup) : l.Nodup := (List.pairwise_map.mp h).imp fun hne e => hne (congrArg f e)
theorem nodup_map {α β : Type} {f : α → β} {l : List α} (hi : ∀ a b, f a = f b → a = b) (h : l.Nodup) : (l.map f).Nodup := List.pairwise_map.mpr (h.imp fun hne e => hne (hi _ _ e))
theorem strs_of_mem : ∀ {ys : List P} {S : List Str}, (∀ y ∈ ys, y ∈ S.map P.str) → ∃ zs : List Str, ys = zs.map P.str ∧ ∀ z ∈ zs, z ∈ S
  | [], S, _ => ⟨[], rfl, by simp⟩
  | y :: ys, S, h => by
    obtain ⟨z, hz, rfl⟩ := List.mem_map.mp (h y (by simp))
    obtain ⟨zs, rfl, hs⟩ := strs_of_mem (ys := ys) fun x hx => h x (List.mem_cons_of_mem _ hx)
    exact ⟨z :: zs, rfl, by simpa using ⟨hz, hs⟩⟩
theorem strs_inj : ∀ {a b : List Str}, a.map P.str = b.map P.str → a = b
  | [], [], _ => rfl
  | x :: a, y :: b, h => by
    simp only [List.map_cons, List.cons.injEq, P.str.injEq] at h
    rw [h.1, strs_inj h.2]
  | [], _ :: _, h => by simp at h
  | _ :: _, [], h => by simp at h
theorem stemsOf_len (c : Nat) : (stemsOf c).length = 5 := by
  unfold stemsOf
  rw [List.length_map, vows_len]
theorem flat_len : ∀ l : List Nat, (l.flatMap stemsOf).length = l.length * 5
  | [] => rfl
  | c :: l => by
    rw [List.flatMap_cons, List.length_append, flat_len l, stemsOf_len, List.length_cons]
    omega
/-- the stems' loop -/
theorem stems_loop {b : Nat} {m : Int} : EvSN (qFor loopN (qOverS (qC (.s (.str "bcdfghklmnprstvwxz")))) (tV 3)
    (qSet 2 (qB qAdd (qVar 2) (qLc loopN [5] (qOverS (qC (.s (.str "aeiou")))) (tV 5) (qC true) (qB qAdd (qVar 3) (qVar 5)))))) [.pa (.drw b), .sh (.int m), .ow (.lst []), .no, .no, .no] fun r pe => r = .nx ∧ ∃ s3, pe = [.pa (.drw b), .sh (.int m), .ow (.lst (stems.map P.str)), s3, .no, .no] ∧ ∀ w, s3 ≠ .pa w := by
  refine evsn_for (pe1 := [.pa (.drw b), .sh (.int m), .ow (.lst []), .no, .no, .no]) (items := sons.cps.toList.map fun k => .str ⟨#[k]⟩) (fun xs pe => ∃ done rest s3, sons.cps.toList = done ++ rest ∧ xs = rest.map (fun k => P.str ⟨#[k]⟩) ∧ pe = [.pa (.drw b), .sh (.int m), .ow (.lst ((done.flatMap stemsOf).map P.str)), s3, .no, .no] ∧ ∀ w, s3 ≠ .pa w) (ev_over (v := .str "bcdfghklmnprstvwxz") (fun K h => h) rfl rfl) (by rw [List.length_map, sons_len]; exact big_lp (by omega)) ⟨[], _, .no, rfl, rfl, rfl, fun w h => by cases h⟩ ?_ ?_
  · rintro x xs pe ⟨done, rest, s3, e1, e2, rfl, hs⟩
    cases rest with
    | nil => cases e2
    | cons c rest =>
      simp only [List.map_cons, List.cons.injEq] at e2
      obtain ⟨rfl, rfl⟩ := e2
      refine ⟨_, tV_ok rfl hs, ?_⟩
      refine EvS.n (pe1 := [.pa (.drw b), .sh (.int m), .ow (.lst (((done ++ [c]).flatMap stemsOf).map P.str)), .sh (.str (ch c)), .no, .no]) ?_ ⟨rfl, done ++ [c], rest, .sh (.str (ch c)), by rw [e1]; simp, rfl, rfl, fun w h => by cases h⟩
      have hlen : done.length ≤ 18 := by
        have := sons_len
        rw [e1] at this
        simp at this
        omega
      let pe1 : PEnv := [.pa (.drw b), .sh (.int m), .ow (.lst ((done.flatMap stemsOf).map P.str)), .sh (.str (ch c)), .no, .no]
      have hlc := ev_lc (n := loopN) (vs := [5]) (ps := qOverS (qC (.s (.str "aeiou")))) (t := tV 5) (qt := qC true) (qe := qB qAdd (qVar 3) (qVar 5)) (pe := pe1) (pe1 := pe1) (pe2 := pe1) (items := vows.cps.toList.map fun k => .str ⟨#[k]⟩) (fun _ => true) (fun p => match p with
        | .str v => .str (ch c ++ v)
        | v => v) (ev_over (v := .str "aeiou") (fun K h => h) rfl rfl) (by rw [List.length_map, vows_len]; exact big_lp (by omega)) (by rw [List.length_map, vows_len]; exact big_sz (by omega)) rfl rfl fun y hy => by
          obtain ⟨k, _, rfl⟩ := List.mem_map.mp hy
          exact ⟨_, rfl, rfl, ev_c, fun _ => ev_BS (v1 := .str (ch c)) (v2 := .str ⟨#[k]⟩) (fun K h => h) (fun K h => h) (by
            show (if (ch c).length + (⟨#[k]⟩ : Str).length ≤ sizeLine then some (false, P.str (ch c ++ ⟨#[k]⟩)) else none) = _
            have hz : (ch c).length + (⟨#[k]⟩ : Str).length ≤ sizeLine := (big_sz (by omega) : 1 + 1 ≤ sizeLine)
            rw [if_pos hz])⟩
      rw [S3.filter_all, List.map_map] at hlc
      have e3 : (vows.cps.toList.map ((fun p => match p with
        | .str v => .str (ch c ++ v)
        | v => v) ∘ fun k => P.str ⟨#[k]⟩)) = (stemsOf c).map P.str := by
        unfold stemsOf
        rw [List.map_map]
        rfl
      rw [e3] at hlc
      refine evS_set (o := .o (.lst (((done ++ [c]).flatMap stemsOf).map P.str))) (pe1 := pe1) (ev_BT (ev_k rfl) hlc (u := (.lst ((done.flatMap stemsOf).map P.str), .lst ((stemsOf c).map P.str))) rfl ?_) rfl
      have hz : ((done.flatMap stemsOf).map P.str).length + ((stemsOf c).map P.str).length ≤ sizeLine := by
        refine big_sz ?_
        have h1 := flat_len done
        have h2 := stemsOf_len c
        rw [List.length_map, List.length_map, h1, h2]
        omega
      show (if _ then _ else _) = _
      rw [if_pos hz]
      simp
  · rintro pe ⟨done, rest, s3, e1, e2, rfl, hs⟩
    cases rest with
    | cons c rest => cases e2
    | nil =>
      refine ⟨rfl, s3, ?_, hs⟩
      rw [List.append_nil] at e1
      unfold stems
      rw [e1]
end L_k01

set_option maxHeartbeats 4000000
/-! M3: names, scopes, letters drawn. -/
namespace L_k01
open PySem PyProof.Rows L2 S3
theorem names_ok {b m : Nat} (hb : 200 < b) (hm : m ≤ 90) : EvDN pd_names [.pa (.drw b), .sh (.int m)] fun r sls => ∃ (ns : List Str) (b' : Nat), r = (true, .lst (ns.map P.str)) ∧ ns.length ≤ m ∧ (∀ x ∈ ns, x ∈ allNames) ∧ ns.Nodup ∧ b ≤ b' + 180 ∧ sls = [.pa (.drw b'), .sh (.int m)] := by
  refine evdn_of ?_
  show EvSN q_names [.pa (.drw b), .sh (.int m), .no, .no, .no, .no] _
  refine evsn_seqE (pe1 := [.pa (.drw b), .sh (.int m), .ow (.lst []), .no, .no, .no]) (evS_set (ev_lst (vs := []) ev_nil rfl (Nat.zero_le _)) rfl) ?_
  refine evsn_seq (stems_loop) ?_
  rintro pe ⟨s3, rfl, hs⟩
  refine evsn_ret (evn_lcN (evn_over (EvN.b (Φ := fun o pe => ∃ ys b', o = .o (.lst ys) ∧ ys.Perm (stems.map P.str) ∧ b ≤ b' + 90 ∧ pe = [.pa (.drw b'), .sh (.int m), .sh (.lst (stems.map P.str)), s3, .no, .no]) (evn_callL ?_) ?_)))
  · refine Ev.n (ev_cons (ev_kp (v := .drw b) rfl) (ev_one (ev_k (v := .lst (stems.map P.str)) rfl))) ⟨0, [.k 2], [.lst (stems.map P.str)], [.pa (.drw b), .sh (.int m), .sh (.lst (stems.map P.str)), s3, .no, .no], .drw b, rfl, rfl, rfl, rfl, ?_⟩
    refine (shuf5 (n := 10) (k := 1) (fun v hv => ?_) (by omega) (by rw [List.length_map, stems_len]; omega) (by rw [List.length_map, stems_len]; omega)).mono ?_
    · obtain ⟨x, hx, rfl⟩ := List.mem_map.mp hv
      exact stem_rp hx
    · rintro r sls ⟨ys, b', rfl, hp, hb', rfl⟩
      rw [List.length_map, stems_len] at hb'
      exact ⟨_, _, rfl, ys, b', rfl, hp, hb', rfl⟩
  · rintro o pe ⟨ys, b', rfl, hp, hb', rfl⟩
    let pe1 : PEnv := [.pa (.drw b'), .sh (.int m), .sh (.lst (stems.map P.str)), s3, .no, .no]
    show EvN (pb (qC none) fun l => pb (qI (qVar 1)) fun h pe Q => qOp qSl (match opv pe (.o (.lst ys)) with
      | some v => some (v, l, h)
      | none => none) pe Q) pe1 _
    refine EvN.b (Ev.n (pe1 := pe1) (x := none) ev_c (Φ := fun x pe => x = none ∧ pe = pe1) ⟨rfl, rfl⟩) ?_
    rintro x pe ⟨rfl, rfl⟩
    refine EvN.b (Ev.n (pe1 := pe1) (x := some (m : Int)) (ev_I (ev_v rfl)) (Φ := fun x pe => x = some (m : Int) ∧ pe = pe1) ⟨rfl, rfl⟩) ?_
    rintro x pe ⟨rfl, rfl⟩
    have hcut : qSl (.lst ys, none, some (m : Int)) = some (true, .lst (ys.take m)) := by
      show some (true, P.lst (cut3 ys none (some (m : Int)))) = _
      rw [cut_take]
    refine evn_op hcut ?_
    obtain ⟨zs, ez, hz⟩ := strs_of_mem (ys := ys) (S := stems) fun y hy => hp.mem_iff.mp hy
    subst ez
    have hznd : (zs.map fun x => x.cps.toList).Nodup := by
      have h2 := hp.map fun p : P => match p with
        | .str z => z.cps.toList
        | _ => []
      rw [List.map_map, List.map_map] at h2
      exact h2.nodup_iff.mpr stems_nd
    let dn := zs.take m
    have hdn : (zs.map P.str).take m = dn.map P.str := by rw [List.map_take]
    have hdl : dn.length ≤ m := by
      show (zs.take m).length ≤ m
      rw [List.length_take]
      omega
    have hdnd : (dn.map fun x => x.cps.toList).Nodup := by
      show ((zs.take m).map _).Nodup
      rw [List.map_take]
      exact hznd.sublist (List.take_sublist _ _)
    have hds : ∀ x ∈ dn, x ∈ stems := fun x hx => hz x (List.mem_of_mem_take hx)
    refine ⟨.lst ((zs.map P.str).take m), pe1, _, rfl, rfl, ?_⟩
    rw [hdn]
    refine ⟨by rw [List.length_map]; exact big_lp (by omega), by rw [List.length_map]; exact big_sz (by omega), rfl, fun xs acc pe => ∃ done rest ns c, dn = done ++ rest ∧ xs = rest.map P.str ∧ acc = ns.map P.str ∧ ns.map st2 = done.map (fun x => x.cps.toList) ∧ (∀ x ∈ ns, x ∈ allNames) ∧ b' ≤ c + done.length ∧ pe = [.pa (.drw c), .sh (.int m), .sh (.lst (stems.map P.str)), s3, .no, .no], ⟨[], dn, [], b', rfl, rfl, rfl, rfl, by simp, by simp, rfl⟩, ?_, ?_⟩
    · rintro x xs acc pe ⟨done, rest, ns, c, e1, e2, rfl, e3, h1, h2, rfl⟩
      cases rest with
      | nil => cases e2
      | cons st rest =>
        simp only [List.map_cons, List.cons.injEq] at e2
        obtain ⟨rfl, rfl⟩ := e2
        have hst : st ∈ stems := hds st (by rw [e1]; simp)
        have hdl2 : done.length < m := by
          rw [e1] at hdl
          simp at hdl
          omega
        refine ⟨_, rfl, ?_⟩
        refine evn_BE (ev_v (v := .str st) rfl) (evn_callL (evn_consE (ev_kp (v := .drw c) rfl) (evn_one (Ev.n (ev_lst (vs := [.str "q", .str "k", .str "x", .str "mu"]) (ev_cons ev_c (ev_cons ev_c (ev_cons ev_c (ev_one ev_c)))) rfl (by decide)) ⟨0, _, [.lst [.str "q", .str "k", .str "x", .str "mu"]], _, .drw c, rfl, rfl, rfl, rfl, ?_⟩))))
        refine (pick5 (by omega) (by decide) (by decide)).mono ?_
        rintro ⟨rb, rv⟩ sls ⟨⟨rfl, hr⟩, rfl⟩
        obtain ⟨e, he, rfl⟩ : ∃ e ∈ sufs, rv = P.str e := by
          have : rv ∈ sufs.map P.str := hr
          obtain ⟨e, he, h⟩ := List.mem_map.mp this
          exact ⟨e, he, h.symm⟩
        have hadd : qAdd (.str st, .str e) = some (false, .str (st ++ e)) := by
          have hl1 : st.length ≤ 8 := by
            have := List.all_eq_true.mp stems_ok st hst
            simp only [Bool.and_eq_true, decide_eq_true_eq] at this
            exact this.2
          have hl2 : e.length ≤ 2 := by
            have : sufs.all (fun e => decide (e.length ≤ 2)) = true := by decide +kernel
            simpa using List.all_eq_true.mp this e he
          exact if_pos (big_sz (by omega))
        refine ⟨_, _, rfl, _, false, _, rfl, hadd, .str (st ++ e), _, rfl, done ++ [st], rest, ns ++ [st ++ e], c - 1, by rw [e1]; simp, rfl, by simp, ?_, ?_, by simp; omega, rfl⟩
        · rw [List.map_append, List.map_append, e3]
          show _ ++ [st2 (st ++ e)] = _ ++ [st.cps.toList]
          rw [st2_app hst]
        · intro x hx
          rcases List.mem_append.mp hx with hx | hx
          · exact h1 x hx
          · simp only [List.mem_cons, List.not_mem_nil, or_false] at hx
            subst hx
            exact List.mem_flatMap.mpr ⟨st, hst, List.mem_map.mpr ⟨e, he, rfl⟩⟩
    · rintro acc pe ⟨done, rest, ns, c, e1, e2, rfl, e3, h1, h2, rfl⟩
      cases rest with
      | cons _ _ => cases e2
      | nil =>
        rw [List.append_nil] at e1
        refine .inr ⟨_, rfl, true, _, rfl, ns, c, rfl, ?_, h1, ?_, ?_, rfl⟩
        · have := congrArg List.length e3
          rw [List.length_map, List.length_map, ← e1] at this
          omega
        · refine nodup_of_map (f := st2) ?_
          rw [e3, ← e1]
          exact hdnd
        · rw [← e1] at h2
          omega
theorem lt_of_le_ne {a b : List Nat} (h : a ≤ b) (hn : a ≠ b) : a < b := by
  rcases List.le_iff_lt_or_eq.mp h with h | h
  · exact h
  · exact absurd h hn
theorem asc_pw : ∀ {l : List Str}, l.Pairwise (fun a b => a.cps.toList < b.cps.toList) → ascB l = true
  | [], _ => rfl
  | [_], _ => rfl
  | x :: y :: r, h => by
    have h1 : x.cps.toList < y.cps.toList := (List.pairwise_cons.mp h).1 y (by simp)
    have h2 := asc_pw (l := y :: r) (List.pairwise_cons.mp h).2
    show (decide (x.cps.toList < y.cps.toList) && ascB (y :: r)) = true
    rw [h2, decide_eq_true h1]
    rfl
/-- what a drawn scope is -/
structure Sco (sc : List Str) : Prop where
  len : sc.length ≤ 3
  al : ∀ x ∈ sc, x ∈ allNames
  pw : sc.Pairwise fun a b => a.cps.toList < b.cps.toList
theorem Sco.good {sc : List Str} (h : Sco sc) : GoodSc sc := ⟨h.len, fun x hx => (nm_ok (h.al x hx)).sz, fun x hx => (nm_ok (h.al x hx)).nm, asc_pw h.pw⟩
theorem Sco.sub {sc l : List Str} (h : Sco sc) (s : l.Sublist sc) : Sco l := ⟨Nat.le_trans s.length_le h.len, fun x hx => h.al x (s.subset hx), h.pw.sublist s⟩
theorem pstrs_map : ∀ l : List Str, pstrs (l.map P.str) = some l
  | [] => rfl
  | x :: l => by
    show (match pstrs (l.map P.str) with | some is => some (x :: is) | none => none) = _
    rw [pstrs_map l]
theorem scope_ok {b : Nat} (hb : 300 < b) : EvDN pd_scope [.pa (.drw b), .sh (.int 3)] fun r sls => ∃ (sc : List Str) (b' : Nat), r = (false, .tup (sc.map P.str)) ∧ Sco sc ∧ b ≤ b' + 181 ∧ sls = [.pa (.drw b'), .sh (.int 3)] := by
  refine evdn_of (evsn_ret (evn_args (evn_one (evn_args (evn_one (evn_callL (evn_consE (ev_kp (v := .drw b) rfl) (evn_one (evn_take (b := b) (n := 4) (ev_kp rfl) (ev_BS (ev_v (v := .int 3) rfl) ev_c rfl) rfl (by omega) (by omega) (by omega) fun k k0 k1 => ?_)))))))))
  have e : k = ((k.toNat : Nat) : Int) := by omega
  refine ⟨0, _, [.int k], _, .drw (b - 1), rfl, rfl, rfl, rfl, ?_⟩
  have hn := names_ok (b := b - 1) (m := k.toNat) (by omega) (by omega)
  rw [← e] at hn
  refine hn.mono ?_
  rintro r sls ⟨ns, b', rfl, h1, h2, h3, h4, rfl⟩
  have hlen : ns.length ≤ 3 := by omega
  have hsort : qSortedS [.lst (ns.map P.str)] = some (true, .lst ((ssort ns).map P.str)) := by
    show (match pstrs (ns.map P.str) with | some is => _ | none => none) = _
    rw [pstrs_map]
    exact if_pos (by omega)
  refine ⟨_, _, rfl, _, true, _, rfl, hsort, _, false, _, rfl, rfl, .inl ⟨_, rfl, false, _, rfl, ssort ns, b', rfl, ?_, by omega, rfl⟩⟩
  have hp := ssort_perm ns
  refine ⟨by rw [hp.length_eq]; exact hlen, fun x hx => h2 x (hp.mem_iff.mp hx), ?_⟩
  have hnd : (ssort ns).Nodup := hp.nodup_iff.mpr h3
  exact (List.Pairwise.and (ssort_sorted ns) hnd).imp fun ⟨h, hne⟩ => lt_of_le_ne h fun e => hne (str_ext e)
end L_k01

set_option maxHeartbeats 4000000
/-! M4: letters, woods, places drawn. -/
namespace L_k01
open PySem PyProof.Rows L2 S3
theorem prange_int {i : Int} (h0 : 0 ≤ i) (h : i ≤ 1000) : prange [.int i] = some ((List.range i.toNat).map fun i => .int (i : Nat)) := by
  show (if -(2 ^ 62) ≤ i ∧ i < 2 ^ 62 then some ((List.range i.toNat).map fun i => P.int (i : Nat)) else none) = _
  rw [if_pos (by omega)]
theorem prange_nat {m : Nat} (h : m ≤ 1000) : prange [.int m] = some ((List.range m).map fun i => .int (i : Nat)) := by
  rw [prange_int (by omega) (by omega), Int.toNat_natCast]
theorem ev_overA1 {f : List P → Option (List P)} {ps : PM (List Opd)} {pe pe1 : PEnv} {v : P} {xs : List P} (h : Ev ps pe [.s v] pe1) (hf : f [v] = some xs) : Ev (qOverA f ps) pe xs pe1 := ev_overA (os := [.s v]) (vs := [v]) h rfl hf
theorem ev_range {ps : PM (List Opd)} {pe pe1 : PEnv} {m : Nat} (h : Ev ps pe [.s (.int m)] pe1) (hm : m ≤ 1000) : Ev (qOverR ps) pe ((List.range m).map fun i => .int (i : Nat)) pe1 := by
  have h2 := prange_nat hm
  unfold qOverR
  generalize prange = f at h2 ⊢
  exact ev_overA1 h h2
def tupS (l : List Str) : P := .tup (l.map P.str)
theorem letters_ok {sc : List Str} (h : sc.length ≤ 3) : EvDN pd_letters [.sh (tupS sc)] fun r _ => ∃ ls : List (List Str), r = (true, .lst (ls.map tupS)) ∧ 0 < ls.length ∧ ls.length ≤ 8 ∧ ∀ l ∈ ls, l.Sublist sc := by
  refine evdn_of ?_
  show EvSN q_letters [.sh (tupS sc), .no, .no, .no] _
  refine evsn_seqE (pe1 := [.sh (tupS sc), .ow (.lst [.tup []]), .no, .no]) (evS_set (ev_lst (vs := [.tup []]) (ev_one (ev_tup (vs := []) ev_nil rfl (Nat.zero_le _))) rfl (by decide)) rfl) ?_
  refine evsn_seq (M := fun pe => ∃ (ls : List (List Str)) (s2 : Sl), pe = [.sh (tupS sc), .ow (.lst (ls.map tupS)), s2, .no] ∧ 0 < ls.length ∧ ls.length ≤ 8 ∧ ∀ l ∈ ls, l.Sublist sc) ?_ ?_
  · refine evsn_for (pe1 := [.sh (tupS sc), .ow (.lst [.tup []]), .no, .no]) (items := sc.map P.str) (fun xs pe => ∃ (done rest : List Str) (ls : List (List Str)) (s2 : Sl), sc = done ++ rest ∧ xs = rest.map P.str ∧ pe = [.sh (tupS sc), .ow (.lst (ls.map tupS)), s2, .no] ∧ 0 < ls.length ∧ ls.length = 2 ^ done.length ∧ (∀ l ∈ ls, l.Sublist done) ∧ ∀ w, s2 ≠ .pa w) (ev_over (v := tupS sc) (ev_v rfl) rfl rfl) (by rw [List.length_map]; exact big_lp (by omega)) ⟨[], sc, [[]], .no, rfl, rfl, rfl, by decide, rfl, by simp, fun w h => by cases h⟩ ?_ ?_
    · rintro x xs pe ⟨done, rest, ls, s2, e1, e2, rfl, h0, h1, h2, hs⟩
      cases rest with
      | nil => cases e2
      | cons n rest =>
        simp only [List.map_cons, List.cons.injEq] at e2
        obtain ⟨rfl, rfl⟩ := e2
        have hd : done.length ≤ 2 := by
          rw [e1] at h
          simp at h
          omega
        have hls : ls.length ≤ 4 := by
          rw [h1]
          have : 2 ^ done.length ≤ 2 ^ 2 := Nat.pow_le_pow_right (by omega) hd
          omega
        refine ⟨_, tV_ok rfl hs, ?_⟩
        let pe1 : PEnv := [.sh (tupS sc), .ow (.lst (ls.map tupS)), .sh (.str n), .no]
        let pe2 : PEnv := [.sh (tupS sc), .sh (.lst (ls.map tupS)), .sh (.str n), .no]
        have hlc := ev_lc (n := loopN) (vs := [3]) (ps := qOverL (qVar 1)) (t := tV 3) (qt := qC true) (qe := qB qAdd (qVar 3) (qTup (qCons (qVar 2) qNil))) (pe := pe1) (pe1 := pe2) (pe2 := pe2) (items := ls.map tupS) (fun _ => true) (fun p => match p with
          | .tup v => .tup (v ++ [.str n])
          | v => v) (ev_over (v := .lst (ls.map tupS)) (ev_k rfl) rfl rfl) (by rw [List.length_map]; exact big_lp (by omega)) (by rw [List.length_map]; exact big_sz (by omega)) rfl rfl fun y hy => by
            obtain ⟨l, hl, rfl⟩ := List.mem_map.mp hy
            have hl3 : l.length ≤ 2 := Nat.le_trans (h2 l hl).length_le hd
            exact ⟨_, rfl, rfl, ev_c, fun _ => ev_BS (v1 := tupS l) (v2 := .tup [.str n]) (ev_v rfl) (ev_tup (vs := [.str n]) (ev_one (ev_v rfl)) rfl (big_sz (Nat.le_of_ble_eq_true rfl))) (by
              show (if (l.map P.str).length + 1 ≤ sizeLine then _ else none) = _
              rw [if_pos (by rw [List.length_map]; exact big_sz (by omega))]
              rfl)⟩
        rw [S3.filter_all, List.map_map] at hlc
        have e3 : (ls.map ((fun p => match p with
          | .tup v => .tup (v ++ [.str n])
          | v => v) ∘ tupS)) = (ls.map fun l => l ++ [n]).map tupS := by
          rw [List.map_map]
          refine List.map_congr_left fun l _ => ?_
          show P.tup (l.map P.str ++ [.str n]) = P.tup ((l ++ [n]).map P.str)
          rw [List.map_append]
          rfl
        rw [e3] at hlc
        refine EvS.n (pe1 := [.sh (tupS sc), .ow (.lst ((ls ++ ls.map fun l => l ++ [n]).map tupS)), .sh (.str n), .no]) (evS_set (o := .o (.lst ((ls ++ ls.map fun l => l ++ [n]).map tupS))) (pe1 := pe2) (ev_BT (ev_k rfl) hlc (u := (.lst (ls.map tupS), .lst ((ls.map fun l => l ++ [n]).map tupS))) rfl ?_) rfl) ⟨rfl, done ++ [n], rest, ls ++ ls.map fun l => l ++ [n], _, by rw [e1]; simp, rfl, rfl, by simp; omega, ?_, ?_, fun w h => by cases h⟩
        · show (if _ then _ else none) = _
          rw [if_pos (by simp only [List.length_map]; exact big_sz (by omega)), List.map_append]
        · rw [List.length_append, List.length_map, List.length_append, h1]
          show 2 ^ done.length + 2 ^ done.length = 2 ^ (done.length + 1)
          rw [Nat.pow_succ]
          omega
        · intro l hl
          rcases List.mem_append.mp hl with hl | hl
          · exact (h2 l hl).trans (List.sublist_append_left done [n])
          · obtain ⟨k, hk, rfl⟩ := List.mem_map.mp hl
            exact (h2 k hk).append (List.Sublist.refl [n])
    · rintro pe ⟨done, rest, ls, s2, e1, e2, rfl, h0, h1, h2, hs⟩
      cases rest with
      | cons _ _ => cases e2
      | nil =>
        rw [List.append_nil] at e1
        refine ⟨rfl, ls, s2, rfl, h0, ?_, by rw [e1]; exact h2⟩
        rw [h1, ← e1]
        have : 2 ^ sc.length ≤ 2 ^ 3 := Nat.pow_le_pow_right (by omega) h
        omega
  · rintro pe ⟨ls, s2, rfl, h0, h1, h2⟩
    exact evsn_retO (v := .lst (ls.map tupS)) rfl ⟨true, _, rfl, ls, rfl, h0, h1, h2⟩
def woodM (sc : List Str) (m : Nat) (i : Int) (b : Nat) (pe : PEnv) : Prop := ∃ (ns : List (List Str × Nat × Nat)) (c : Nat) (s4 : Sl), ns.length = m ∧ (∀ n ∈ ns, n.1.Sublist sc ∧ n.2.1 < m ∧ n.2.2 < m) ∧ b ≤ c + 19 ∧ pe = [.pa (.drw c), .sh (tupS sc), .sh (.int 6), .sh (.int i), s4, .ow (.lst (ns.map pN)), .no]
theorem rows_ok {b m : Nat} {i : Int} (ei : i = (m : Int)) {sc : List Str} {ls : List (List Str)} (hb : 100 < b) (m1 : 1 ≤ m) (m2 : m ≤ 6) (h0 : 0 < ls.length) (h1 : ls.length ≤ 8) (h2 : ∀ l ∈ ls, l.Sublist sc) : EvSN (qSet 5 (qLc loopN [6] (qOverR (qCons (qVar 3) qNil)) (tV 6) (qC true) (qTup (qCons (qCallL 2 pd_pick (qCons (qVar 0) (qCons (qVar 4) qNil))) (qCons (qCallL 2 pd_take (qCons (qVar 0) (qCons (qVar 3) qNil))) (qCons (qCallL 2 pd_take (qCons (qVar 0) (qCons (qVar 3) qNil))) qNil)))))) [.pa (.drw (b - 1)), .sh (tupS sc), .sh (.int 6), .sh (.int i), .ow (.lst (ls.map tupS)), .no, .no] fun r pe => r = .nx ∧ woodM sc m i b pe := by
  refine evsn_set (evn_lc (items := (List.range i.toNat).map fun i => .int (i : Nat)) (pe1 := [.pa (.drw (b - 1)), .sh (tupS sc), .sh (.int 6), .sh (.int i), .ow (.lst (ls.map tupS)), .no, .no]) (fun xs acc pe => ∃ (ns : List (List Str × Nat × Nat)) (c : Nat) (s4 : Sl), acc = ns.map pN ∧ ns.length + xs.length = m ∧ (∀ n ∈ ns, n.1.Sublist sc ∧ n.2.1 < m ∧ n.2.2 < m) ∧ b - 1 ≤ c + 3 * ns.length ∧ pe = [.pa (.drw c), .sh (tupS sc), .sh (.int 6), .sh (.int i), s4, .no, .no] ∧ (s4 = .ow (.lst (ls.map tupS)) ∨ s4 = .sh (.lst (ls.map tupS)))) (ev_overA (os := [.s (.int i)]) (vs := [.int i]) (ev_one (ev_v rfl)) rfl (prange_int (by omega) (by omega))) (by rw [List.length_map, List.length_range]; exact big_lp (by omega)) (by rw [List.length_map, List.length_range]; exact big_sz (by omega)) rfl ⟨[], b - 1, _, rfl, by simp [ei], by simp, by simp, rfl, .inl rfl⟩ ?_ ?_)
  · rintro x xs acc pe ⟨ns, c, s4, rfl, hl, hn, hc, rfl, hs⟩
    have hl6 : ns.length < m := by simp at hl; omega
    have hs4 : ∀ w, s4 ≠ .pa w := by rcases hs with rfl | rfl <;> exact fun w h => by cases h
    refine ⟨_, rfl, ?_⟩
    let peB : PEnv := [.pa (.drw c), .sh (tupS sc), .sh (.int 6), .sh (.int i), .sh (.lst (ls.map tupS)), .no, .sh x]
    have hargs : EvN (qCons (qVar 0) (qCons (qVar 4) qNil)) [.pa (.drw c), .sh (tupS sc), .sh (.int 6), .sh (.int i), s4, .no, .sh x] fun os pe1 => ∃ o4, os = [.k 0, o4] ∧ lkA [o4] pe1 = some ([.lst (ls.map tupS)], peB) := by
      rcases hs with rfl | rfl
      · exact Ev.n (ev_cons (ev_kp (v := .drw c) rfl) (ev_one (ev_k (v := .lst (ls.map tupS)) rfl))) ⟨_, rfl, rfl⟩
      · exact Ev.n (ev_cons (ev_kp (v := .drw c) rfl) (ev_one (ev_v (v := .lst (ls.map tupS)) rfl))) ⟨_, rfl, rfl⟩
    refine evn_tup (evn_cons (F := fun o pe => ∃ l ∈ ls, o = .s (tupS l) ∧ pe = [.pa (.drw (c - 1)), .sh (tupS sc), .sh (.int 6), .sh (.int i), .sh (.lst (ls.map tupS)), .no, .sh x]) (evn_callL (hargs.mono ?_)) ?_)
    · rintro os pe1 ⟨o4, rfl, h4⟩
      refine ⟨0, [o4], [.lst (ls.map tupS)], peB, .drw c, rfl, rfl, h4, rfl, ?_⟩
      refine (pick5 (xs := ls.map tupS) (by omega) (by rw [List.length_map]; omega) (by rw [List.length_map]; omega)).mono ?_
      rintro ⟨rb, rv⟩ sls ⟨⟨rfl, hr⟩, rfl⟩
      obtain ⟨l, hl, h⟩ := List.mem_map.mp hr
      subst h
      exact ⟨_, _, rfl, l, hl, rfl, rfl⟩
    · rintro o pe ⟨l, hlm, rfl, rfl⟩
      refine evn_cons (F := fun o pe => ∃ i1 : Nat, i1 < m ∧ o = .s (.int i1) ∧ pe = [.pa (.drw (c - 2)), .sh (tupS sc), .sh (.int 6), .sh (.int i), .sh (.lst (ls.map tupS)), .no, .sh x]) (evn_take (b := c - 1) (n := i) (ev_kp rfl) (ev_v (v := .int i) rfl) rfl (by omega) (by omega) (by omega) fun k k0 k1 => ⟨k.toNat, by omega, by rw [Int.toNat_of_nonneg k0], rfl⟩) ?_
      rintro o pe ⟨i1, hi, rfl, rfl⟩
      refine evn_one (evn_take (b := c - 2) (n := i) (ev_kp rfl) (ev_v (v := .int i) rfl) rfl (by omega) (by omega) (by omega) fun k k0 k1 => ?_)
      refine ⟨[tupS l, .int i1, .int k], _, rfl, big_sz (Nat.le_of_ble_eq_true rfl), pN (l, i1, k.toNat), [.pa (.drw (c - 3)), .sh (tupS sc), .sh (.int 6), .sh (.int i), .sh (.lst (ls.map tupS)), .no, .sh x], ?_, ns ++ [(l, i1, k.toNat)], c - 3, _, by simp, by simp at hl ⊢; omega, ?_, by simp; omega, rfl, .inr rfl⟩
      · show some _ = some _
        unfold pN
        rw [Int.toNat_of_nonneg k0]
        rfl
      · intro n hn2
        rcases List.mem_append.mp hn2 with h3 | h3
        · exact hn n h3
        · simp only [List.mem_cons, List.not_mem_nil, or_false] at h3
          subst h3
          exact ⟨h2 l hlm, hi, by show k.toNat < m; omega⟩
  · rintro acc pe ⟨ns, c, s4, rfl, hl, hn, hc, rfl, hs⟩
    have hl : ns.length = m := by simpa using hl
    rcases hs with rfl | rfl
    · exact ⟨_, rfl, rfl, ns, c, _, hl, hn, by omega, rfl⟩
    · exact ⟨_, rfl, rfl, ns, c, _, hl, hn, by omega, rfl⟩

theorem wood_ok {b : Nat} {sc : List Str} (hb : 100 < b) (h : Sco sc) : EvDN pd_wood [.pa (.drw b), .sh (tupS sc), .sh (.int 6)] fun r sls => ∃ (w : Wo) (b' : Nat), r = (false, pW w) ∧ w.sc = sc ∧ GoodW w ∧ w.ns.length ≤ 6 ∧ b ≤ b' + 19 ∧ sls = [.pa (.drw b'), .sh (tupS sc), .sh (.int 6)] := by
  refine evdn_of ?_
  show EvSN q_wood [.pa (.drw b), .sh (tupS sc), .sh (.int 6), .no, .no, .no, .no] _
  refine evsn_seq (M := fun pe => ∃ (m : Nat) (i : Int) (ls : List (List Str)), i = (m : Int) ∧ 1 ≤ m ∧ m ≤ 6 ∧ pe = [.pa (.drw (b - 1)), .sh (tupS sc), .sh (.int 6), .sh (.int i), .ow (.lst (ls.map tupS)), .no, .no] ∧ 0 < ls.length ∧ ls.length ≤ 8 ∧ ∀ l ∈ ls, l.Sublist sc) ?_ ?_
  · refine evsn_par (evn_cons (F := fun o pe => ∃ (m : Nat) (i : Int), i = (m : Int) ∧ 1 ≤ m ∧ m ≤ 6 ∧ o = .s (.int i) ∧ pe = [.pa (.drw (b - 1)), .sh (tupS sc), .sh (.int 6), .no, .no, .no, .no]) (evn_BE ev_c (evn_take (b := b) (n := 6) (ev_kp rfl) (ev_v (v := .int 6) rfl) rfl (by omega) (by omega) (by omega) fun k k0 k1 => ⟨_, false, _, rfl, rfl, (1 + k).toNat, 1 + k, by omega, by omega, by omega, rfl, rfl⟩)) ?_)
    rintro o pe ⟨m, i, ei, m1, m2, rfl, rfl⟩
    refine evn_one (evn_call (Ev.n (ev_one (ev_v (v := tupS sc) rfl)) ⟨[tupS sc], _, rfl, rfl, (letters_ok h.len).mono ?_⟩))
    rintro r sls ⟨ls, rfl, h0, h1, h2⟩
    exact ⟨_, _, _, rfl, rfl, rfl, m, i, ls, ei, m1, m2, rfl, h0, h1, h2⟩
  · rintro pe ⟨m, i, ls, ei, m1, m2, rfl, h0, h1, h2⟩
    refine evsn_seq (rows_ok (b := b) ei hb m1 m2 h0 h1 h2) ?_
    rintro pe ⟨ns, c, s4, hl, hn, hc, rfl⟩
    refine evsn_ret (Ev.n (ev_tup (vs := [.str "wood", tupS sc, .tup (ns.map pN)]) (ev_cons ev_c (ev_cons (ev_v (v := tupS sc) rfl) (ev_one (ev_args (ev_one (ev_k (v := .lst (ns.map pN)) rfl)) rfl rfl)))) rfl (big_sz (Nat.le_of_ble_eq_true rfl))) (.inl ⟨_, rfl, false, _, rfl, ⟨sc, ns⟩, c, rfl, rfl, ⟨h.good, by show 1 ≤ ns.length; omega, by show ns.length ≤ 400; omega, ?_⟩, by show ns.length ≤ 6; omega, hc, rfl⟩))
    intro n hn2
    obtain ⟨g1, g2, g3⟩ := hn n hn2
    exact ⟨(h.sub g1).good, fun x hx => g1.subset hx, by show n.2.1 < ns.length; omega, by show n.2.2 < ns.length; omega⟩
def wayP (w : Bool) : P := .int (if w then 1 else 0)
theorem place_ok {b : Nat} (hb : 100 < b) : EvDN pd_place [.pa (.drw b), .sh (.int 40)] fun r sls => ∃ (pl : List Bool) (b' : Nat), r = (false, .tup (pl.map wayP)) ∧ pl.length ≤ 40 ∧ b ≤ b' + 41 ∧ sls = [.pa (.drw b'), .sh (.int 40)] := by
  refine evdn_of ?_
  show EvSN q_place [.pa (.drw b), .sh (.int 40), .no] _
  refine evsn_ret (evn_args (evn_one (evn_lcN (evn_overA (evn_one (evn_take (b := b) (n := 41) (ev_kp rfl) (ev_BS (ev_v (v := .int 40) rfl) ev_c rfl) rfl (by omega) (by omega) (by omega) fun k k0 k1 => ?_))))))
  refine ⟨[.int k], _, (List.range k.toNat).map fun i => .int (i : Nat), rfl, prange_int k0 (by omega), by rw [List.length_map, List.length_range]; exact big_lp (by omega), by rw [List.length_map, List.length_range]; exact big_sz (by omega), rfl, fun xs acc pe => ∃ (pl : List Bool) (c : Nat), acc = pl.map wayP ∧ pl.length + xs.length = k.toNat ∧ b - 1 ≤ c + pl.length ∧ pe = [.pa (.drw c), .sh (.int 40), .no], ⟨[], b - 1, rfl, by simp, by simp, rfl⟩, ?_, ?_⟩
  · rintro x xs acc pe ⟨pl, c, rfl, hl, hc, rfl⟩
    refine ⟨_, rfl, evn_take (b := c) (n := 2) (ev_kp rfl) ev_c rfl (by omega) (by omega) (by simp at hl; omega) fun j j0 j1 => ⟨.int j, _, rfl, pl ++ [decide (j = 1)], c - 1, ?_, by simp at hl ⊢; omega, by simp; omega, rfl⟩⟩
    rw [List.map_append]
    show _ ++ [P.int j] = _ ++ [wayP (decide (j = 1))]
    congr 2
    unfold wayP
    have : j = 0 ∨ j = 1 := by omega
    rcases this with rfl | rfl <;> rfl
  · rintro acc pe ⟨pl, c, rfl, hl, hc, rfl⟩
    have hl : pl.length = k.toNat := by simpa using hl
    exact ⟨_, false, _, rfl, rfl, .inl ⟨_, rfl, false, _, rfl, pl, c, rfl, by omega, by omega, rfl⟩⟩
end L_k01

set_option maxHeartbeats 4000000
/-! M5: the node at a place; the wood within. -/
namespace L_k01
open PySem PyProof.Rows L2 S3
theorem EvDN.d {pd : PD} {ps ps' : List Sl} {x : Bool × P} (h : EvDN pd ps fun r sls => r = x ∧ sls = ps') : EvD pd ps (.ok x) ps' := fun K hK => h K fun r sls ⟨e1, e2⟩ => by
  subst e1 e2
  exact hK
def child (w : Wo) (i : Nat) (b : Bool) : Nat := match w.ns[i]? with
  | some n => if b then n.2.2 else n.2.1
  | none => 0
def atW (w : Wo) (pl : List Bool) : Nat := pl.foldl (child w) 0
theorem child_lt {w : Wo} (g : GoodW w) {i : Nat} {b : Bool} (h : i < w.ns.length) : child w i b < w.ns.length := by
  unfold child
  rw [List.getElem?_eq_getElem h]
  obtain ⟨_, _, h1, h2⟩ := g.nd _ (List.getElem_mem h)
  cases b
  · exact h1
  · exact h2
theorem at_lt {w : Wo} (g : GoodW w) : ∀ (pl : List Bool) (i : Nat), i < w.ns.length → pl.foldl (child w) i < w.ns.length
  | [], i, h => h
  | b :: r, i, h => at_lt g r _ (child_lt g h)
theorem atW_lt {w : Wo} (g : GoodW w) (pl : List Bool) : atW w pl < w.ns.length := at_lt g pl 0 g.l1
theorem at_ok {w : Wo} (g : GoodW w) {pl : List Bool} (hl : pl.length ≤ 1000) : EvD pd_at [.sh (pW w), .sh (.tup (pl.map wayP))] (.ok (false, .int (atW w pl))) [.sh (pW w), .sh (.tup (pl.map wayP))] := by
  refine EvDN.d (evdn_of ?_)
  show EvSN q_at [.sh (pW w), .sh (.tup (pl.map wayP)), .no, .no] _
  refine evsn_seqE (pe1 := [.sh (pW w), .sh (.tup (pl.map wayP)), .sh (.int 0), .no]) (evS_set ev_c rfl) ?_
  refine evsn_seq (M := fun pe => ∃ s3, pe = [.sh (pW w), .sh (.tup (pl.map wayP)), .sh (.int (atW w pl)), s3]) ?_ ?_
  · refine evsn_for (pe1 := [.sh (pW w), .sh (.tup (pl.map wayP)), .sh (.int 0), .no]) (items := pl.map wayP) (fun xs pe => ∃ (done rest : List Bool) (s3 : Sl), pl = done ++ rest ∧ xs = rest.map wayP ∧ pe = [.sh (pW w), .sh (.tup (pl.map wayP)), .sh (.int (atW w done)), s3] ∧ ∀ v, s3 ≠ .pa v) (ev_over (v := .tup (pl.map wayP)) (ev_v rfl) rfl rfl) (by rw [List.length_map]; exact big_lp hl) ⟨[], pl, .no, rfl, rfl, rfl, fun v h => by cases h⟩ ?_ ?_
    · rintro x xs pe ⟨done, rest, s3, e1, e2, rfl, hs⟩
      cases rest with
      | nil => cases e2
      | cons y rest =>
        simp only [List.map_cons, List.cons.injEq] at e2
        obtain ⟨rfl, rfl⟩ := e2
        refine ⟨_, tV_ok rfl hs, ?_⟩
        have hi := atW_lt g done
        have hn : (w.ns.map pN)[atW w done]? = some (pN w.ns[atW w done]) := by rw [List.getElem?_map, List.getElem?_eq_getElem hi]; rfl
        have hc : child w (atW w done) y = if y then (w.ns[atW w done]).2.2 else (w.ns[atW w done]).2.1 := by
          unfold child
          rw [List.getElem?_eq_getElem hi]
        have hat : atW w (done ++ [y]) = child w (atW w done) y := by
          unfold atW
          rw [List.foldl_append]
          rfl
        let pe1 : PEnv := [.sh (pW w), .sh (.tup (pl.map wayP)), .sh (.int (atW w done)), .sh (wayP y)]
        have i2 : Ev (qB qIx (qVar 0) (qC (.s (.int 2)))) pe1 (.s (.tup (w.ns.map pN))) pe1 := ev_BS (ev_v (v := pW w) rfl) ev_c rfl
        have i3 : Ev (qB qIx (qB qIx (qVar 0) (qC (.s (.int 2)))) (qVar 2)) pe1 (.s (pN w.ns[atW w done])) pe1 := ev_BS i2 (ev_v (v := .int (atW w done)) rfl) (qIx_tup hn)
        refine EvS.n (pe1 := [.sh (pW w), .sh (.tup (pl.map wayP)), .sh (.int (atW w (done ++ [y]))), .sh (wayP y)]) (evS_set (o := .s (.int (atW w (done ++ [y])))) (pe1 := pe1) (ev_BS i3 (ev_BS (v1 := .int 1) (v2 := wayP y) (w := .int (1 + if y then 1 else 0)) ev_c (ev_v rfl) rfl) ?_) rfl) ⟨rfl, done ++ [y], rest, _, by rw [e1]; simp, rfl, rfl, fun v h => by cases h⟩
        rw [hat, hc]
        cases y <;> rfl
    · rintro pe ⟨done, rest, s3, e1, e2, rfl, hs⟩
      cases rest with
      | cons _ _ => cases e2
      | nil =>
        rw [List.append_nil] at e1
        exact ⟨rfl, s3, by rw [e1]⟩
  · rintro pe ⟨s3, rfl⟩
    exact evsn_ret (Ev.n (ev_v rfl) (.inl ⟨_, rfl, false, _, rfl, rfl, rfl⟩))
theorem told_ok {w : Wo} (g : GoodW w) {pl : List Bool} (hl : pl.length ≤ 1000) : EvD pd_p_node_told [.sh (pW w), .sh (.tup (pl.map wayP))] (.ok (false, .int (atW w pl))) [.sh (pW w), .sh (.tup (pl.map wayP))] := at_ok g hl
theorem way_num {b : Bool} : EvD pd_p_is_number [.sh (wayP b), .sh (.int 2)] (.ok (false, .bl true)) [.sh (wayP b), .sh (.int 2)] := by
  have := num_int (i := if b then 1 else 0) (e := 2)
  cases b <;> exact this
theorem need_place_ok {pl : List Bool} (hl : pl.length ≤ 1000) : EvD pd_p_need_place [.sh (.tup (pl.map wayP))] (.ok (false, .non)) [.sh (.tup (pl.map wayP))] := by
  have hall := ev_allC (n := loopN) (vs := [1]) (ps := qOverT (qVar 0)) (t := tV 1) (qe := qCall 2 pd_p_is_number (qCons (qVar 1) (qCons (qC (.s (.int 2))) qNil))) (pe := [.sh (.tup (pl.map wayP)), .no]) (pe1 := [.sh (.tup (pl.map wayP)), .no]) (pe2 := [.sh (.tup (pl.map wayP)), .no]) (items := pl.map wayP) (fun _ => true) (ev_over (v := .tup (pl.map wayP)) (ev_v rfl) rfl rfl) (by rw [List.length_map]; exact big_lp hl) (by rw [List.length_map]; exact big_sz (by omega)) rfl rfl fun y hy => by
    obtain ⟨b, _, rfl⟩ := List.mem_map.mp hy
    exact ⟨_, rfl, rfl, ev_call2 (ev_v (v := wayP b) rfl) ev_c way_num⟩
  have e1 : (pl.map wayP).all (fun _ => true) = true := by simp
  rw [e1] at hall
  have hp : EvD pd_p_is_place [.sh (.tup (pl.map wayP))] (.ok (false, .bl true)) [.sh (.tup (pl.map wayP))] := evD_of (pe' := [.sh (.tup (pl.map wayP)), .no]) (evS_ret (ev_andV (a := true) (b := true) (ev_args (ev_cons (ev_v (v := .tup (pl.map wayP)) rfl) (ev_one ev_c)) rfl rfl) fun _ => hall))
  exact evD_nx (pe' := [.sh (.tup (pl.map wayP))]) (evS_if (b := false) (ev_not (b := true) (ev_TS (ev_call1 (ev_v rfl) hp))) (fun e => by cases e) fun _ K h => h)
theorem node_at_ok {w : Wo} (g : GoodW w) {pl : List Bool} (hl : pl.length ≤ 1000) : EvD pd_p_node_at [.sh (pW w), .sh (.tup (pl.map wayP))] (.ok (false, .int (atW w pl))) [.sh (pW w), .sh (.tup (pl.map wayP))] := by
  refine evD_of (pe' := [.sh (pW w), .sh (.tup (pl.map wayP))]) (evS_seq (evS_drop (ev_call1 (ev_v rfl) (need_wood_good g))) (evS_seq (evS_drop (ev_call1 (ev_v rfl) (need_place_ok hl))) (evS_ret (ev_call2 (ev_v rfl) (ev_v rfl) (told_ok g hl)))))
/-! ### the breadth-first walk -/
def numsF : Nat → List Nat → List (Key × P)
  | _, [] => []
  | k, x :: r => (.inl (x : Int), .int (k : Nat)) :: numsF (k + 1) r
theorem nums_len : ∀ (l : List Nat) (k : Nat), (numsF k l).length = l.length
  | [], _ => rfl
  | x :: r, k => by
    show (numsF (k + 1) r).length + 1 = r.length + 1
    rw [nums_len r]
theorem nums_val {x : Nat} : ∀ (l : List Nat) (k : Nat), valG (numsF k l) (.inl (x : Int)) = if x ∈ l then some (.int ((k + l.idxOf x : Nat) : Int)) else none
  | [], _ => rfl
  | y :: r, k => by
    have ih := nums_val (x := x) r (k + 1)
    by_cases h : y = x
    · subst h
      simp [valG, numsF, List.find?]
    · have e : valG (numsF k (y :: r)) (.inl (x : Int)) = valG (numsF (k + 1) r) (.inl (x : Int)) := by
        have hne : ¬ ((Sum.inl (y : Int) : Key) = Sum.inl (x : Int)) := fun e => h (by
          have := Sum.inl.inj e
          omega)
        show (List.find? (fun kv => decide (kv.1 = Sum.inl (x : Int))) ((.inl (y : Int), .int (k : Nat)) :: numsF (k + 1) r)).map (·.2) = (List.find? (fun kv => decide (kv.1 = Sum.inl (x : Int))) (numsF (k + 1) r)).map (·.2)
        rw [List.find?_cons_of_neg (by simpa using hne)]
      rw [e, ih]
      have hx : x ≠ y := fun e => h e.symm
      by_cases hm : x ∈ r
      · rw [if_pos hm, if_pos (List.mem_cons_of_mem _ hm), List.idxOf_cons]
        have : (y == x) = false := by simpa using h
        rw [this]
        simp only [cond_false]
        congr 2
        omega
      · rw [if_neg hm, if_neg (by simp [hm, hx])]
theorem nums_app {x : Nat} : ∀ (l : List Nat) (k : Nat), numsF k (l ++ [x]) = numsF k l ++ [(.inl (x : Int), .int ((k + l.length : Nat) : Int))]
  | [], k => rfl
  | y :: r, k => by
    show _ :: numsF (k + 1) (r ++ [x]) = _ :: (numsF (k + 1) r ++ _)
    have e : k + 1 + r.length = k + (r.length + 1) := by omega
    rw [nums_app r (k + 1), List.length_cons, e]
theorem nums_put {x : Nat} {l : List Nat} (h : x ∉ l) : putG (numsF 0 l) (.inl (x : Int)) (.int (l.length : Nat)) = numsF 0 (l ++ [x]) := by
  have hv := nums_val (x := x) l 0
  rw [if_neg h] at hv
  have ha : ((numsF 0 l).any fun kv => decide (kv.1 = .inl (x : Int))) = false := by
    unfold valG at hv
    rw [Option.map_eq_none_iff, List.find?_eq_none] at hv
    rw [List.any_eq_false]
    exact hv
  unfold putG
  rw [ha, nums_app]
  simp
def intP (x : Nat) : P := .int (x : Nat)
def addK (l : List Nat) (x : Nat) : List Nat := if x ∈ l then l else l ++ [x]
def envB (a b s2 : Sl) (line : List Nat) (rows : List (List Str × Nat × Nat)) (s6 s7 s8 s9 : Sl) : PEnv := [a, b, s2, .ow (.lst (line.map intP)), .ow (.dK (numsF 0 line)), .ow (.lst (rows.map pN)), s6, s7, s8, s9]
theorem evS_store {pv po pi : PM Opd} {pe : PEnv} {v iv w w' : P} {i : Nat} (h1 : Ev pv pe (.s v) pe) (h2 : Ev po pe (.k i) pe) (h3 : Ev pi pe (.s iv) pe) (ho : ownv pe i = some w) (hp : pset w iv v = some w') : EvS (qStore pv po pi) pe .nx (mutS pe i w') := fun K hK => h1 _ (h2 _ (h3 _ (by
  show qSubEnd (.s v) (.k i) (.s iv) pe K
  unfold qSubEnd lk1 opv
  dsimp only
  rw [ho]
  dsimp only
  rw [hp]
  exact hK)))
def keyB : PS := qIfS (qT (qB (qDin true) (qVar 9) (qVar 4)))
    (qSeq (qStore (qArgs qLen (qCons (qVar 3) qNil)) (qVar 4) (qVar 9))
    (qDrop (qMeth mApp (qVar 3) (qCons (qVar 9) qNil))))
    qNop
theorem key_ok {a b s2 s6 s7 s8 : Sl} {line : List Nat} {rows : List (List Str × Nat × Nat)} {x : Nat} (hl : line.length ≤ 400) : EvS keyB (envB a b s2 line rows s6 s7 s8 (.sh (intP x))) .nx (envB a b s2 (addK line x) rows s6 s7 s8 (.sh (intP x))) := by
  have hv := nums_val (x := x) line 0
  have hdin : qDin true (intP x, .dK (numsF 0 line)) = some (false, .bl (!decide (x ∈ line))) := by
    show some (false, P.bl (!(valG (numsF 0 line) (.inl (x : Int))).isSome)) = _
    rw [hv]
    by_cases h : x ∈ line <;> simp [h]
  refine evS_if (b := !decide (x ∈ line)) (ev_T (ev_B (u := (intP x, .dK (numsF 0 line))) (ev_v (v := intP x) rfl) (ev_k (v := .dK (numsF 0 line)) rfl) rfl hdin) rfl) (fun e => ?_) fun e => ?_
  · have hx : x ∉ line := by simpa using e
    have ea : addK line x = line ++ [x] := if_neg hx
    rw [ea]
    have hset : pset (.dK (numsF 0 line)) (intP x) (.int ((line.map intP).length : Nat)) = some (.dK (numsF 0 (line ++ [x]))) := by
      show (if (numsF 0 line).length < sizeLine then some (P.dK (putG (numsF 0 line) (.inl (x : Int)) (.int ((line.map intP).length : Nat)))) else none) = _
      rw [if_pos (by rw [nums_len]; exact Nat.lt_of_le_of_lt hl (by decide)), List.length_map, nums_put hx]
    refine evS_seq (pe1 := [a, b, s2, .ow (.lst (line.map intP)), .ow (.dK (numsF 0 (line ++ [x]))), .ow (.lst (rows.map pN)), s6, s7, s8, .sh (intP x)]) (evS_store (i := 4) (ev_args (ev_one (ev_k (v := .lst (line.map intP)) rfl)) rfl rfl) (ev_k (v := .dK (numsF 0 line)) rfl) (ev_v (v := intP x) rfl) rfl hset) ?_
    have happ : mApp (line.map intP) [intP x] = some ((line ++ [x]).map intP, .non) := by
      show (if (line.map intP).length < sizeLine then some (line.map intP ++ [intP x], P.non) else none) = _
      rw [if_pos (by rw [List.length_map]; exact Nat.lt_of_le_of_lt hl (by decide)), List.map_append]
      rfl
    refine evS_drop (o := .s .non) ?_
    intro K hK
    refine evn_meth (F := fun o pe => o = .s .non ∧ pe = envB a b s2 (line ++ [x]) rows s6 s7 s8 (.sh (intP x))) (us0 := line.map intP) (ev_k rfl) rfl (Ev.n (ev_one (ev_v (v := intP x) rfl)) ⟨[intP x], _, line.map intP, _, _, rfl, rfl, happ, rfl, rfl⟩) K fun o pe ⟨e1, e2⟩ => ?_
    subst e1 e2
    exact hK
  · have hx : x ∈ line := by simpa using e
    have ea : addK line x = line := if_pos hx
    rw [ea]
    exact fun K h => h
end L_k01

set_option maxHeartbeats 4000000
/-! M6: numbered, within. -/
namespace L_k01
open PySem PyProof.Rows L2 S3
abbrev Row := List Str × Nat × Nat
theorem nodup_len : ∀ (N : Nat) (l : List Nat), l.Nodup → (∀ x ∈ l, x < N) → l.length ≤ N
  | 0, l, _, h => by
    cases l with
    | nil => simp
    | cons x r => exact absurd (h x (by simp)) (by omega)
  | N + 1, l, hn, h => by
    have ih := nodup_len N (l.erase N) (hn.erase N) fun x hx => by
      have := (List.Nodup.mem_erase_iff hn).mp hx
      have := h x this.2
      omega
    rw [List.length_erase] at ih
    split at ih <;> omega
structure Inv (w : Wo) (line : List Nat) : Prop where
  nd : line.Nodup
  lt : ∀ x ∈ line, x < w.ns.length
theorem Inv.len {w : Wo} {l : List Nat} (h : Inv w l) : l.length ≤ w.ns.length := nodup_len _ l h.nd h.lt
theorem Inv.add {w : Wo} {l : List Nat} {x : Nat} (h : Inv w l) (hx : x < w.ns.length) : Inv w (addK l x) := by
  unfold addK
  split
  · exact h
  · rename_i hn
    refine ⟨List.nodup_append.mpr ⟨h.nd, by simp, fun a ha b hb e => ?_⟩, fun y hy => ?_⟩
    · simp only [List.mem_cons, List.not_mem_nil, or_false] at hb
      subst hb e
      exact hn ha
    · rcases List.mem_append.mp hy with hy | hy
      · exact h.lt y hy
      · simp only [List.mem_cons, List.not_mem_nil, or_false] at hy
        subst hy
        exact hx
theorem add_mem {l : List Nat} {x : Nat} : x ∈ addK l x := by
  unfold addK
  split
  · assumption
  · simp
theorem add_sub {l : List Nat} {x y : Nat} (h : y ∈ l) : y ∈ addK l x := by
  unfold addK
  split
  · exact h
  · simp [h]
theorem add_len {l : List Nat} {x : Nat} : l.length ≤ (addK l x).length := by
  unfold addK
  split <;> simp
def lineB (line : List Nat) (n : Row) : List Nat := addK (addK line n.2.1) n.2.2
def rowB (line : List Nat) (n : Row) : Row := (n.1, (lineB line n).idxOf n.2.1, (lineB line n).idxOf n.2.2)
def nodeB (w : Wo) (line : List Nat) (k : Nat) : Row := match line[k]? with
  | some x => match w.ns[x]? with
    | some n => n
    | none => ([], 0, 0)
  | none => ([], 0, 0)
def bfs (w : Wo) : Nat → List Nat → List Row → List Nat × List Row
  | 0, line, rows => (line, rows)
  | f + 1, line, rows => if rows.length < line.length then bfs w f (lineB line (nodeB w line rows.length)) (rows ++ [rowB line (nodeB w line rows.length)]) else (line, rows)
section
variable {pe pe1 pe2 pe3 pe4 : PEnv} {p : PM Opd}
theorem evS_asg {o : Opd} {v : P} {t : T5} (h : Ev p pe o pe1) (hl : lk1 o pe1 = some (v, pe2)) (ht : t v pe2 = some pe3) : EvS (qAsg p t) pe .nx pe3 := evS_e h fun K hK => by
  show (match lk1 o pe1 with | some (v, pe1) => _ | none => _)
  rw [hl]
  show (match t v pe2 with | some pe' => _ | none => _)
  rw [ht]
  exact hK
theorem evS_for2 {n : Nat} {ps : PM (List P)} {t : T5} {body : PS} {x y : P} {pe5 : PEnv} (h : Ev ps pe [x, y] pe1) (hn : 2 < n) (h1 : t x pe1 = some pe2) (b1 : EvS body pe2 .nx pe3) (h2 : t y pe3 = some pe4) (b2 : EvS body pe4 .nx pe5) : EvS (qFor n ps t body) pe .nx pe5 := evS_e h fun K hK => ⟨hn, by
  show (match t x pe1 with | some pe2 => _ | none => False)
  rw [h1]
  refine b1 _ ?_
  show (match t y pe3 with | some pe2 => _ | none => False)
  rw [h2]
  exact b2 _ hK⟩
theorem ev_disp {ps : PM (List Opd)} {os : List Opd} {vs : List P} {kvs : List (Key × P)} (h : Ev ps pe os pe1) (hl : lkA os pe1 = some (vs, pe2)) (hk : pkeysP vs = some kvs) (hn : kvs.length ≤ 15) : Ev (qDisp ps) pe (.o (.dK (mergeG [] kvs))) pe2 := fun K hK => h _ (by
  show (match lkA os pe1 with | some (vs, pe2) => _ | none => False)
  rw [hl]
  show (match pkeysP vs with | some kvs => _ | none => False)
  rw [hk]
  exact ⟨hn, hK⟩)
theorem ev_pair {pk pv : PM Opd} {pr : PM (List Opd)} {k v : Opd} {os : List Opd} (h1 : Ev pk pe k pe1) (h2 : Ev pv pe1 v pe2) (h3 : Ev pr pe2 os pe3) : Ev (qPair pk pv pr) pe (k :: v :: os) pe3 := h1.b (h2.b (h3.b ev_c))
theorem ev_callR {i n : Nat} {cs : List D} {pdl : PD} {ps : PM (List Opd)} {os : List Opd} {vs ws : List P} {v : P} {sls : List Sl} (h : Ev ps pe os pe1) (hn : os.length = n) (hl : lkA os pe1 = some (vs, pe2)) (hc : pe2[i]? = some (.cap cs ws)) (hd : EvD pdl ((vs ++ ws).map Sl.sh) (.ok (false, v)) sls) : Ev (qCallR i cs n pdl ps) pe (.s v) pe2 := h.b fun K hK => by
  refine ⟨hn, ?_⟩
  show (match lkA os pe1 with | some (vs, pe1) => _ | none => False)
  rw [hl]
  show (match pe2[i]? with | some (.cap cs' ws) => _ | _ => False)
  rw [hc]
  exact ⟨rfl, hd _ hK⟩
theorem ev_callLm {m : Nat} {js : List Nat} {pdn : List D → PD} {ps : PM (List Opd)} {os : List Opd} {vs ws : List P} {v : P} (h : Ev ps pe os pe1) (hn : os.length = m) (hl : lkA os pe1 = some (vs, pe2)) (hc : capsP pe2 js = some ws) (hd : ∀ cs, ∃ sls, EvD (pdn cs) (vs.map Sl.sh ++ [.cap cs ws]) (.ok (false, v)) sls) : Ev (qCallLm m js pdn ps) pe (.s v) pe2 := h.b fun K hK => by
  refine ⟨hn, ?_⟩
  show (match lkA os pe1 with | some (vs, pe1) => _ | none => False)
  rw [hl]
  show (match capsP pe2 js with | some ws => _ | none => False)
  rw [hc]
  intro cs
  obtain ⟨sls, hs⟩ := hd cs
  exact hs _ hK
end
def wbody (src : PM Opd) (ov : PM (List P)) : PS := qSeq (qAsg src (tT 3 (S3.tCons (tV 6) (S3.tCons (tV 7) (S3.tCons (tV 8) S3.tNil)))))
    (qSeq (qFor loopN ov (tV 9) keyB)
    (qDrop (qMeth mApp (qVar 5) (qCons (qTup (qCons (qVar 6) (qCons (qB qDget (qVar 4) (qVar 7)) (qCons (qB qDget (qVar 4) (qVar 8)) qNil)))) qNil))))
def wtest : PM Bool := qT (qB qLt (qArgs qLen (qCons (qVar 5) qNil)) (qArgs qLen (qCons (qVar 3) qNil)))
def Srcs (w : Wo) (a b s2 : Sl) (src : PM Opd) : Prop := ∀ (line : List Nat) (rows : List Row) (s6 s7 s8 s9 : Sl) (x : Nat) (n : Row), line[rows.length]? = some x → w.ns[x]? = some n → Ev src (envB a b s2 line rows s6 s7 s8 s9) (.s (pN n)) (envB a b s2 line rows s6 s7 s8 s9)
def Ovs (ov : PM (List P)) : Prop := ∀ (pe : PEnv) (l r : P), pe[7]? = some (.sh l) → pe[8]? = some (.sh r) → Ev ov pe [l, r] pe
theorem dget_ok {l : List Nat} {x : Nat} (h : x ∈ l) : qDget (.dK (numsF 0 l), intP x) = some (false, intP (l.idxOf x)) := by
  have hv := nums_val (x := x) l 0
  rw [if_pos h, Nat.zero_add] at hv
  show (match some (valG (numsF 0 l) (.inl (x : Int))) with | some (some d) => some (false, d) | _ => none) = _
  rw [hv]
  rfl
def Free4 (s6 s7 s8 s9 : Sl) : Prop := (s6 = .no ∧ s7 = .no ∧ s8 = .no ∧ s9 = .no) ∨ ∃ p q r t, s6 = .sh p ∧ s7 = .sh q ∧ s8 = .sh r ∧ s9 = .sh t
theorem body_ok {w : Wo} (g : GoodW w) {a b s2 s6 s7 s8 s9 : Sl} {src : PM Opd} {ov : PM (List P)} (hsrc : Srcs w a b s2 src) (hov : Ovs ov) {line : List Nat} {rows : List Row} (inv : Inv w line) (hr : rows.length < line.length) (hs : Free4 s6 s7 s8 s9) : ∃ t6 t7 t8 t9, Free4 t6 t7 t8 t9 ∧ EvS (wbody src ov) (envB a b s2 line rows s6 s7 s8 s9) .nx (envB a b s2 (lineB line (nodeB w line rows.length)) (rows ++ [rowB line (nodeB w line rows.length)]) t6 t7 t8 t9) := by
  have hx : line[rows.length]? = some line[rows.length] := List.getElem?_eq_getElem hr
  have hlt : line[rows.length] < w.ns.length := inv.lt _ (List.getElem_mem hr)
  have hn : w.ns[line[rows.length]]? = some w.ns[line[rows.length]] := List.getElem?_eq_getElem hlt
  have hnode : nodeB w line rows.length = w.ns[line[rows.length]] := by
    unfold nodeB
    rw [hx]
    dsimp only
    rw [hn]
  rw [hnode]
  obtain ⟨_, _, n1, n2⟩ := g.nd _ (List.getElem_mem hlt)
  generalize hN : w.ns[line[rows.length]] = n at *
  have g2 := g.l2
  have l0 := inv.len
  have inv1 := inv.add n1
  have inv2 := inv1.add n2
  have l1 := inv1.len
  have l2 := inv2.len
  refine ⟨.sh (.tup (n.1.map P.str)), .sh (intP n.2.1), .sh (intP n.2.2), .sh (intP n.2.2), .inr ⟨_, _, _, _, rfl, rfl, rfl, rfl⟩, ?_⟩
  refine evS_seq (pe1 := envB a b s2 line rows (.sh (.tup (n.1.map P.str))) (.sh (intP n.2.1)) (.sh (intP n.2.2)) s9) (evS_asg (hsrc line rows s6 s7 s8 s9 _ n hx hn) rfl ?_) ?_
  · rcases hs with ⟨rfl, rfl, rfl, rfl⟩ | ⟨p, q, r, t, rfl, rfl, rfl, rfl⟩ <;> rfl
  refine evS_seq (pe1 := envB a b s2 (lineB line n) rows (.sh (.tup (n.1.map P.str))) (.sh (intP n.2.1)) (.sh (intP n.2.2)) (.sh (intP n.2.2))) ?_ ?_
  · refine evS_for2 (hov _ (intP n.2.1) (intP n.2.2) rfl rfl) (big_lp (by omega)) (tV_ok (s := s9) rfl ?_) (key_ok (by omega)) rfl (key_ok (by omega))
    rcases hs with ⟨rfl, rfl, rfl, rfl⟩ | ⟨p, q, r, t, rfl, rfl, rfl, rfl⟩ <;> exact fun v h => by cases h
  · have hrl : rows.length ≤ 400 := by omega
    have happ : mApp (rows.map pN) [pN (rowB line n)] = some ((rows ++ [rowB line n]).map pN, .non) := by
      show (if (rows.map pN).length < sizeLine then some (rows.map pN ++ [pN (rowB line n)], P.non) else none) = _
      rw [if_pos (by rw [List.length_map]; exact Nat.lt_of_le_of_lt hrl (by decide)), List.map_append]
      rfl
    refine evS_drop (o := .s .non) ?_
    intro K hK
    refine evn_meth (F := fun o pe => o = .s .non ∧ pe = envB a b s2 (lineB line n) (rows ++ [rowB line n]) (.sh (.tup (n.1.map P.str))) (.sh (intP n.2.1)) (.sh (intP n.2.2)) (.sh (intP n.2.2))) (us0 := rows.map pN) (ev_k rfl) rfl (Ev.n (ev_one (ev_tup (vs := [.tup (n.1.map P.str), intP ((lineB line n).idxOf n.2.1), intP ((lineB line n).idxOf n.2.2)]) (ev_cons (ev_v (v := .tup (n.1.map P.str)) rfl) (ev_cons (ev_B (u := (.dK (numsF 0 (lineB line n)), intP n.2.1)) (ev_k (v := .dK (numsF 0 (lineB line n))) rfl) (ev_v (v := intP n.2.1) rfl) rfl (dget_ok (add_sub add_mem))) (ev_one (ev_B (u := (.dK (numsF 0 (lineB line n)), intP n.2.2)) (ev_k (v := .dK (numsF 0 (lineB line n))) rfl) (ev_v (v := intP n.2.2) rfl) rfl (dget_ok add_mem))))) rfl (big_sz (Nat.le_of_ble_eq_true rfl)))) ⟨[pN (rowB line n)], _, rows.map pN, _, _, rfl, rfl, happ, rfl, rfl⟩) K fun o pe ⟨e1, e2⟩ => ?_
    subst e1 e2
    exact hK
theorem bfs_ok {w : Wo} (g : GoodW w) {a b s2 : Sl} {src : PM Opd} {ov : PM (List P)} (hsrc : Srcs w a b s2 src) (hov : Ovs ov) {first : Nat} (hf : first < w.ns.length) : EvSN (qWhile wtest (wbody src ov) loopN) (envB a b s2 [first] [] .no .no .no .no) fun r pe => r = .nx ∧ ∃ s6 s7 s8 s9, pe = envB a b s2 (bfs w (w.ns.length + 1) [first] []).1 (bfs w (w.ns.length + 1) [first] []).2 s6 s7 s8 s9 := by
  have g2 := g.l2
  refine evsn_while (m := w.ns.length + 1) (fun m pe => ∃ line rows s6 s7 s8 s9, pe = envB a b s2 line rows s6 s7 s8 s9 ∧ Free4 s6 s7 s8 s9 ∧ Inv w line ∧ rows.length ≤ line.length ∧ m + rows.length = w.ns.length + 1 ∧ bfs w m line rows = bfs w (w.ns.length + 1) [first] []) (big_lp (by omega)) ⟨[first], [], _, _, _, _, rfl, .inl ⟨rfl, rfl, rfl, rfl⟩, ⟨by simp, by simpa using hf⟩, by simp, by simp, rfl⟩ ?_
  rintro m pe ⟨line, rows, s6, s7, s8, s9, rfl, hs, inv, hl, hm, hb⟩
  have l0 := inv.len
  have hlt : qLt (.int (rows.map pN).length, .int (line.map intP).length) = some (false, .bl (decide (rows.length < line.length))) := by
    show some (false, P.bl (decide (((rows.map pN).length : Int) < ((line.map intP).length : Int)))) = _
    rw [List.length_map, List.length_map]
    congr 3
    simp
  refine Ev.n (ev_TS (b := decide (rows.length < line.length)) (ev_BS (v1 := .int (rows.map pN).length) (v2 := .int (line.map intP).length) (ev_args (ev_one (ev_k (v := .lst (rows.map pN)) rfl)) rfl rfl) (ev_args (ev_one (ev_k (v := .lst (line.map intP)) rfl)) rfl rfl) hlt)) ?_
  cases m with
  | zero => omega
  | succ m =>
    by_cases hr : rows.length < line.length
    · refine .inl ⟨decide_eq_true hr, ?_⟩
      obtain ⟨t6, t7, t8, t9, ht, hB⟩ := body_ok g hsrc hov inv hr hs
      have hx : line[rows.length]? = some line[rows.length] := List.getElem?_eq_getElem hr
      have hlt : line[rows.length] < w.ns.length := inv.lt _ (List.getElem_mem hr)
      obtain ⟨_, _, n1, n2⟩ := g.nd _ (List.getElem_mem hlt)
      have hnode : nodeB w line rows.length = w.ns[line[rows.length]] := by
        unfold nodeB
        rw [hx]
        dsimp only
        rw [List.getElem?_eq_getElem hlt]
      have a1 := add_len (l := line) (x := (nodeB w line rows.length).2.1)
      have a2 := add_len (l := addK line (nodeB w line rows.length).2.1) (x := (nodeB w line rows.length).2.2)
      refine EvS.n hB ⟨rfl, m, by omega, _, _, _, _, _, _, rfl, ht, ?_, ?_, by simp; omega, ?_⟩
      · rw [hnode]
        exact (inv.add n1).add n2
      · show (rows ++ [_]).length ≤ (addK (addK line _) _).length
        rw [List.length_append]
        show rows.length + 1 ≤ _
        omega
      · rw [← hb]
        show _ = (if rows.length < line.length then _ else _)
        rw [if_pos hr]
    · refine .inr ⟨decide_eq_false hr, rfl, s6, s7, s8, s9, ?_⟩
      rw [← hb]
      show _ = envB a b s2 (if rows.length < line.length then _ else (line, rows)).1 (if rows.length < line.length then _ else (line, rows)).2 s6 s7 s8 s9
      rw [if_neg hr]
/-- the wood told -/
def numW (w : Wo) (first : Nat) : Wo := ⟨w.sc, (bfs w (w.ns.length + 1) [first] []).2⟩
theorem ovL : Ovs (qOverL (qLst (qCons (qVar 7) (qCons (qVar 8) qNil)))) := fun pe l r h1 h2 => ev_over (v := .lst [l, r]) (ev_lst (vs := [l, r]) (ev_cons (ev_v h1) (ev_one (ev_v h2))) rfl (big_sz (Nat.le_of_ble_eq_true rfl))) rfl rfl
theorem ovT : Ovs (qOverT (qTup (qCons (qVar 7) (qCons (qVar 8) qNil)))) := fun pe l r h1 h2 => ev_over (v := .tup [l, r]) (ev_tup (vs := [l, r]) (ev_cons (ev_v h1) (ev_one (ev_v h2))) rfl (big_sz (Nat.le_of_ble_eq_true rfl))) rfl rfl
theorem numbered_ok {w : Wo} (g : GoodW w) {first : Nat} (hf : first < w.ns.length) : EvD pd_numbered [.sh (.tup (w.sc.map P.str)), .sh (intP first), .sh (.tup (w.ns.map pN))] (.ok (false, pW (numW w first))) [.sh (.tup (w.sc.map P.str)), .sh (intP first), .sh (.tup (w.ns.map pN))] := by
  refine EvDN.d (evdn_of ?_)
  show EvSN q_numbered [.sh (.tup (w.sc.map P.str)), .sh (intP first), .sh (.tup (w.ns.map pN)), .no, .no, .no, .no, .no, .no, .no] _
  refine evsn_seqE (pe1 := envB (.sh (.tup (w.sc.map P.str))) (.sh (intP first)) (.sh (.tup (w.ns.map pN))) [first] [] .no .no .no .no) (evS_par (ev_cons (ev_lst (vs := [intP first]) (ev_one (ev_v rfl)) rfl (big_sz (Nat.le_of_ble_eq_true rfl))) (ev_cons (ev_disp (vs := [intP first, .int 0]) (kvs := [(.inl (first : Int), .int 0)]) (ev_pair (ev_v rfl) ev_c ev_nil) rfl rfl (Nat.le_of_ble_eq_true rfl)) (ev_one (ev_lst (vs := []) ev_nil rfl (Nat.zero_le _))))) rfl rfl) ?_
  refine evsn_seq (bfs_ok g ?_ ovL hf) ?_
  · intro line rows s6 s7 s8 s9 x n hx hn
    refine ev_BS (v1 := .tup (w.ns.map pN)) (v2 := intP x) (ev_v rfl) (ev_B (u := (.lst (line.map intP), .int (rows.length : Nat))) (ev_k (v := .lst (line.map intP)) rfl) (ev_args (ev_one (ev_k (v := .lst (rows.map pN)) rfl)) rfl (w := .int (rows.length : Nat)) ?_) rfl ?_) ?_
    · show some (false, P.int ((rows.map pN).length : Nat)) = _
      rw [List.length_map]
    · exact qIx_lst (by rw [List.getElem?_map, hx]; rfl)
    · exact qIx_tup (by rw [List.getElem?_map, hn]; rfl)
  · rintro pe ⟨s6, s7, s8, s9, rfl⟩
    refine evsn_ret (Ev.n (ev_tup (vs := [.str "wood", .tup (w.sc.map P.str), .tup ((bfs w (w.ns.length + 1) [first] []).2.map pN)]) (ev_cons ev_c (ev_cons (ev_v rfl) (ev_one (ev_args (ev_one (ev_k (v := .lst ((bfs w (w.ns.length + 1) [first] []).2.map pN)) rfl)) rfl rfl)))) rfl (big_sz (Nat.le_of_ble_eq_true rfl))) (.inl ⟨_, rfl, false, _, rfl, rfl, rfl⟩))
def pd_row : PD := pdOf (List.length Nl_p_within_0) (qRet (qB qIx (qB qIx (qVar 1) (qC (.s (.int 2)))) (qVar 0)))
theorem row_ok {w : Wo} {x : Nat} {n : Row} (h : w.ns[x]? = some n) : EvD pd_row [.sh (intP x), .sh (pW w)] (.ok (false, pN n)) [.sh (intP x), .sh (pW w)] := by
  refine evD_of (n := 2) (pe' := [.sh (intP x), .sh (pW w)]) (evS_ret (ev_BS (v1 := .tup (w.ns.map pN)) (v2 := intP x) (ev_BS (ev_v (v := pW w) rfl) ev_c rfl) (ev_v rfl) (qIx_tup (by rw [List.getElem?_map, h]; rfl))))
theorem p_numbered_ok {w : Wo} (g : GoodW w) {first : Nat} (hf : first < w.ns.length) (cs : List D) : EvD (pd_p_numbered cs pd_row) [.sh (.tup (w.sc.map P.str)), .sh (intP first), .cap cs [pW w]] (.ok (false, pW (numW w first))) [.sh (.tup (w.sc.map P.str)), .sh (intP first), .cap cs [pW w]] := by
  refine EvDN.d (evdn_of ?_)
  show EvSN (q_p_numbered cs pd_row) [.sh (.tup (w.sc.map P.str)), .sh (intP first), .cap cs [pW w], .no, .no, .no, .no, .no, .no, .no] _
  refine evsn_seqE (pe1 := [.sh (.tup (w.sc.map P.str)), .sh (intP first), .cap cs [pW w], .ow (.lst [intP first]), .no, .no, .no, .no, .no, .no]) (evS_set (ev_lst (vs := [intP first]) (ev_one (ev_v rfl)) rfl (big_sz (Nat.le_of_ble_eq_true rfl))) rfl) ?_
  refine evsn_seqE (pe1 := [.sh (.tup (w.sc.map P.str)), .sh (intP first), .cap cs [pW w], .ow (.lst [intP first]), .ow (.dK (numsF 0 [first])), .no, .no, .no, .no, .no]) (evS_set (ev_disp (vs := [intP first, .int 0]) (kvs := [(.inl (first : Int), .int 0)]) (ev_pair (ev_v rfl) ev_c ev_nil) rfl rfl (Nat.le_of_ble_eq_true rfl)) rfl) ?_
  refine evsn_seqE (pe1 := envB (.sh (.tup (w.sc.map P.str))) (.sh (intP first)) (.cap cs [pW w]) [first] [] .no .no .no .no) (evS_set (ev_lst (vs := []) ev_nil rfl (Nat.zero_le _)) rfl) ?_
  refine evsn_seq (bfs_ok g ?_ ovT hf) ?_
  · intro line rows s6 s7 s8 s9 x n hx hn
    refine ev_callR (vs := [intP x]) (ws := [pW w]) (ev_one (ev_B (u := (.lst (line.map intP), .int (rows.length : Nat))) (ev_k (v := .lst (line.map intP)) rfl) (ev_args (ev_one (ev_k (v := .lst (rows.map pN)) rfl)) rfl (w := .int (rows.length : Nat)) ?_) rfl ?_)) rfl rfl rfl (row_ok hn)
    · show some (false, P.int ((rows.map pN).length : Nat)) = _
      rw [List.length_map]
    · exact qIx_lst (by rw [List.getElem?_map, hx]; rfl)
  · rintro pe ⟨s6, s7, s8, s9, rfl⟩
    refine evsn_ret (Ev.n (ev_tup (vs := [.str "wood", .tup (w.sc.map P.str), .tup ((bfs w (w.ns.length + 1) [first] []).2.map pN)]) (ev_cons ev_c (ev_cons (ev_v rfl) (ev_one (ev_args (ev_one (ev_k (v := .lst ((bfs w (w.ns.length + 1) [first] []).2.map pN)) rfl)) rfl rfl)))) rfl (big_sz (Nat.le_of_ble_eq_true rfl))) (.inl ⟨_, rfl, false, _, rfl, rfl, rfl⟩))
theorem within_ok {w : Wo} (g : GoodW w) {pl : List Bool} (hl : pl.length ≤ 1000) : EvD pd_p_within [.sh (pW w), .sh (.tup (pl.map wayP))] (.ok (false, pW (numW w (atW w pl)))) [.sh (pW w), .sh (.tup (pl.map wayP))] := by
  refine evD_of (pe' := [.sh (pW w), .sh (.tup (pl.map wayP))]) (evS_seq (evS_drop (ev_call1 (ev_v rfl) (need_wood_good g))) (evS_seq (evS_drop (ev_call1 (ev_v rfl) (need_place_ok hl))) (evS_ret ?_)))
  exact ev_callLm (ws := [pW w]) (vs := [.tup (w.sc.map P.str), intP (atW w pl)]) (ev_cons (ev_BS (ev_v (v := pW w) rfl) ev_c rfl) (ev_one (ev_call2 (ev_v rfl) (ev_v rfl) (told_ok g hl)))) rfl rfl rfl fun cs => ⟨_, p_numbered_ok g (atW_lt g pl) cs⟩
end L_k01

set_option maxHeartbeats 4000000
/-! M7: texts shown; what is no wood, what is no place. -/
namespace L_k01
open PySem PyProof.Rows L2 S3
structure Fine (w : Wo) : Prop where
  g : GoodW w
  sc : Sco w.sc
  l6 : w.ns.length ≤ 6
structure RowOk (r : Row) : Prop where
  l3 : r.1.length ≤ 3
  al : ∀ x ∈ r.1, x ∈ allNames
  a : r.2.1 ≤ 6
  b : r.2.2 ≤ 6
theorem row_fine {w : Wo} (f : Fine w) {n : Row} (h : n ∈ w.ns) : RowOk n := by
  obtain ⟨h1, h2, h3, h4⟩ := f.g.nd n h
  have := f.l6
  exact ⟨h1.len, fun x hx => f.sc.al x (h2 x hx), by omega, by omega⟩
theorem bfs_fine {w : Wo} (f : Fine w) : ∀ (k : Nat) (line : List Nat) (rows : List Row), Inv w line → rows.length ≤ line.length → (∀ r ∈ rows, RowOk r) → (bfs w k line rows).2.length ≤ 6 ∧ ∀ r ∈ (bfs w k line rows).2, RowOk r
  | 0, line, rows, inv, hl, h => by
    have := inv.len
    have := f.l6
    exact ⟨by show rows.length ≤ 6; omega, h⟩
  | k + 1, line, rows, inv, hl, h => by
    have l0 := inv.len
    have l6 := f.l6
    show (if rows.length < line.length then bfs w k _ _ else (line, rows)).2.length ≤ 6 ∧ ∀ r ∈ (if rows.length < line.length then bfs w k _ _ else (line, rows)).2, RowOk r
    by_cases hr : rows.length < line.length
    · rw [if_pos hr]
      have hx : line[rows.length]? = some line[rows.length] := List.getElem?_eq_getElem hr
      have hlt : line[rows.length] < w.ns.length := inv.lt _ (List.getElem_mem hr)
      have hnode : nodeB w line rows.length = w.ns[line[rows.length]] := by
        unfold nodeB
        rw [hx]
        dsimp only
        rw [List.getElem?_eq_getElem hlt]
      have hmem : w.ns[line[rows.length]] ∈ w.ns := List.getElem_mem hlt
      rw [hnode]
      generalize w.ns[line[rows.length]] = n at *
      obtain ⟨_, _, n1, n2⟩ := f.g.nd _ hmem
      have inv2 : Inv w (lineB line n) := (inv.add n1).add n2
      have a1 := add_len (l := line) (x := n.2.1)
      have a2 := add_len (l := addK line n.2.1) (x := n.2.2)
      have l2 := inv2.len
      have hro := row_fine f hmem
      refine bfs_fine f k _ _ inv2 ?_ ?_
      · rw [List.length_append]
        show rows.length + 1 ≤ (addK (addK line n.2.1) n.2.2).length
        omega
      · intro r hr2
        rcases List.mem_append.mp hr2 with hr2 | hr2
        · exact h r hr2
        · simp only [List.mem_cons, List.not_mem_nil, or_false] at hr2
          subst hr2
          have i1 : (lineB line n).idxOf n.2.1 ≤ (lineB line n).length := List.idxOf_le_length
          have i2 : (lineB line n).idxOf n.2.2 ≤ (lineB line n).length := List.idxOf_le_length
          exact ⟨hro.l3, hro.al, by show (lineB line n).idxOf n.2.1 ≤ 6; omega, by show (lineB line n).idxOf n.2.2 ≤ 6; omega⟩
    · rw [if_neg hr]
      exact ⟨by show rows.length ≤ 6; omega, h⟩
theorem rp_small {i : Nat} (h : i ≤ 6) : Rp (intP i) 39 2 (.int (i : Nat)) := by
  refine Rp.le (n := 39) (k := 1) (rp_int ?_ ?_) (Nat.le_refl _) (by omega)
  · match i, h with
    | 0, _ => decide +kernel
    | 1, _ => decide +kernel
    | 2, _ => decide +kernel
    | 3, _ => decide +kernel
    | 4, _ => decide +kernel
    | 5, _ => decide +kernel
    | 6, _ => decide +kernel
  · match i, h with
    | 0, _ => exact ⟨by decide +kernel, by decide +kernel⟩
    | 1, _ => exact ⟨by decide +kernel, by decide +kernel⟩
    | 2, _ => exact ⟨by decide +kernel, by decide +kernel⟩
    | 3, _ => exact ⟨by decide +kernel, by decide +kernel⟩
    | 4, _ => exact ⟨by decide +kernel, by decide +kernel⟩
    | 5, _ => exact ⟨by decide +kernel, by decide +kernel⟩
    | 6, _ => exact ⟨by decide +kernel, by decide +kernel⟩
theorem rp_names {l : List Str} (h3 : l.length ≤ 3) (h : ∀ x ∈ l, x ∈ allNames) : ∃ d, Rp (.tup (l.map P.str)) 39 2 d := by
  obtain ⟨d, hd⟩ := rp_tup (n := 10) (k := 1) (vs := l.map P.str) fun v hv => by
    obtain ⟨x, hx, rfl⟩ := List.mem_map.mp hv
    have := nm_ok (h x hx)
    exact ⟨_, rp_str this.ok this.sh⟩
  exact ⟨d, hd.le (by rw [List.length_map]; omega) (Nat.le_refl _)⟩
theorem rp_row {r : Row} (h : RowOk r) : ∃ d, Rp (pN r) 126 3 d := by
  obtain ⟨d, hd⟩ := rp_tup (n := 39) (k := 2) (vs := [.tup (r.1.map P.str), intP r.2.1, intP r.2.2]) fun v hv => by
    simp only [List.mem_cons, List.not_mem_nil, or_false] at hv
    rcases hv with rfl | rfl | rfl
    · exact rp_names h.l3 h.al
    · exact ⟨_, rp_small h.a⟩
    · exact ⟨_, rp_small h.b⟩
  exact ⟨d, hd.le (by simp) (by omega)⟩
theorem rp_num {w : Wo} (f : Fine w) {first : Nat} (hf : first < w.ns.length) : ∃ d, Rp (pW (numW w first)) 2322 5 d := by
  obtain ⟨h1, h2⟩ := bfs_fine f (w.ns.length + 1) [first] [] ⟨by simp, by simpa using hf⟩ (by simp) (by simp)
  obtain ⟨d, hd⟩ := rp_tup (n := 771) (k := 4) (vs := [.str "wood", .tup (w.sc.map P.str), .tup ((numW w first).ns.map pN)]) fun v hv => by
    simp only [List.mem_cons, List.not_mem_nil, or_false] at hv
    rcases hv with rfl | rfl | rfl
    · exact ⟨_, (rp_str (x := "wood") (n := 10) (by decide +kernel) ⟨by decide +kernel, by decide +kernel⟩).le (by omega) (by omega)⟩
    · obtain ⟨d, hd⟩ := rp_names f.sc.len f.sc.al
      exact ⟨d, hd.le (by omega) (by omega)⟩
    · obtain ⟨d, hd⟩ := rp_tup (n := 126) (k := 3) (vs := (numW w first).ns.map pN) fun v hv => by
        obtain ⟨r, hr, rfl⟩ := List.mem_map.mp hv
        exact rp_row (h2 r hr)
      have : ((numW w first).ns.map pN).length ≤ 6 := by
        rw [List.length_map]
        exact h1
      exact ⟨d, hd.le (by omega) (by omega)⟩
  exact ⟨d, hd.le (by simp) (by omega)⟩
theorem ne_repr {p1 p2 : PM Opd} {pe pe1 pe2 : PEnv} {v : P} {n : Nat} {k : Nat} {d : PyData} (h1 : Ev p1 pe (.o (.lst [v, v])) pe1) (h2 : Ev p2 pe1 (.o (.lst [v, v])) pe2) (h : Rp v n k d) (hn : n ≤ 10000) (hk : k ≤ 50) : Ev (qB qNe (qArgs qRepr (qCons p1 qNil)) (qArgs qRepr (qCons p2 qNil))) pe (.s (.bl false)) pe2 := by
  obtain ⟨d2, hd⟩ := rp_lst (n := n) (k := k) (vs := [v, v]) fun u hu => by
    simp only [List.mem_cons, List.not_mem_nil, or_false, or_self] at hu
    subst hu
    exact ⟨d, h⟩
  have hr := hd.repr (by omega) (by simp; omega) rfl
  refine ev_BS (v1 := .str d2.shown) (v2 := .str d2.shown) (ev_args (ev_one h1) rfl hr) (ev_args (ev_one h2) rfl hr) ?_
  rw [ne_str hd.sh.1 hd.sh.1]
  simp
/-! ### no wood -/
section
variable {pe pe1 pe2 : PEnv} {p : PM Opd}
def EvE {α : Type} (p : PM α) (pe : PEnv) (c : Nat) (pe' : PEnv) : Prop := ∀ K : R3 α → PEnv → Prop, K (.er c) pe' → p pe K
theorem evE_call1 {pd : PD} {v : P} {c : Nat} {sls : List Sl} (h : Ev p pe (.s v) pe1) (hd : EvD pd [.sh v] (.er c) sls) : EvE (qCall 1 pd (qCons p qNil)) pe c pe1 := fun K hK => ev_one h _ ⟨rfl, hd _ hK⟩
theorem evE_callV {i j n : Nat} {pt : PTab} {pd : PD} {ps : PM (List Opd)} {os : List Opd} {vs : List P} {c : Nat} {sls : List Sl} (hi : pe[i]? = some (.sh (.fn j))) (hp : pt j = some (n, pd)) (h : Ev ps pe os pe1) (hn : os.length = n) (hl : lkA os pe1 = some (vs, pe2)) (hd : EvD pd (vs.map Sl.sh) (.er c) sls) : EvE (qCallV i pt ps) pe c pe2 := fun K hK => by
  unfold qCallV
  rw [hi]
  show (match pt j with | some (n, pd) => qCall n pd ps pe K | none => False)
  rw [hp]
  refine h _ ⟨hn, ?_⟩
  show (match lkA os pe1 with | some (vs, pe1) => _ | none => _)
  rw [hl]
  exact hd _ hK
theorem evS_dropE {c : Nat} (h : EvE p pe c pe1) : EvS (qDrop p) pe (.er c) pe1 := fun K hK => h _ hK
theorem ev_caught {c : Nat} (h : EvE p pe c pe1) : Ev (qCaught p) pe (.s (.exn c)) pe1 := fun K hK => h _ hK
end
def wd (a b : P) : P := .tup [.str "wood", a, b]
def one : P := .tup [.tup [], .int 0, .int 0]
def NoW (v : P) : Prop := EvD pd_p_is_wood [.sh v] (.ok (false, .bl false)) [.sh v]
theorem isi_ty {pe : PEnv} {p : PM Opd} {v : P} {T : String} {b : Bool} (h : Ev p pe (.s v) pe) (hq : qIsi [v, .ty T] = some (false, .bl b)) : Ev (qT (qArgs qIsi (qCons p (qCons (qC (.s (.ty T))) qNil)))) pe b pe := ev_TS (ev_args (ev_cons h (ev_one ev_c)) rfl hq)
theorem len_ne {pe : PEnv} {p : PM Opd} {vs : List P} {n : Nat} (h : Ev p pe (.s (.tup vs)) pe) {i : Int} (hi : i = vs.length) : Ev (qT (qB qNe (qArgs qLen (qCons p qNil)) (qC (.s (.int 3))))) pe (!decide (i = 3)) pe := by
  subst hi
  exact ev_TS (ev_BS (v1 := .int vs.length) (v2 := .int 3) (ev_arg h rfl) ev_c ne_int)
theorem now_type {v : P} (h : qIsi [v, .ty "tuple"] = some (false, .bl false)) : NoW v := evD_of (pe' := [.sh v, .no]) (evS_guard (b := true) (ev_or (a := true) (b := true) (ev_not (b := false) (isi_ty (ev_v rfl) h)) fun e => by cases e) (fun _ => ⟨evS_ret ev_c, fun z => by cases z⟩) fun e => by cases e)
theorem now_len {vs : List P} (h : vs.length ≠ 3) : NoW (.tup vs) := evD_of (pe' := [.sh (.tup vs), .no]) (evS_guard (b := true) (ev_or (a := false) (ev_not (b := true) (isi_ty (ev_v (v := .tup vs) rfl) rfl)) fun _ => by
  have e1 : (!decide ((vs.length : Int) = 3)) = true := by
    have : ¬ ((vs.length : Int) = 3) := by omega
    simp [this]
  exact ev_or (a := true) (b := true) (by
    have := len_ne (n := 0) (ev_v (pe := [.sh (.tup vs), .no]) (i := 0) (v := .tup vs) rfl) rfl
    rw [e1] at this
    exact this) fun e => by cases e) (fun _ => ⟨evS_ret ev_c, fun z => by cases z⟩) fun e => by cases e)
/-- three members, the first a text -/
theorem w_first {s : Str} {a b : P} (hs : PyData.strOk s = true) : Ev (qOr (qNot (qT (qArgs qIsi (qCons (qVar 0) (qCons (qC (.s (.ty "tuple"))) qNil))))) (qOr (qT (qB qNe (qArgs qLen (qCons (qVar 0) qNil)) (qC (.s (.int 3))))) (qOr (qNot (qT (qArgs qIsi (qCons (qB qIx (qVar 0) (qC (.s (.int 0)))) (qCons (qC (.s (.ty "str"))) qNil))))) (qT (qB qNe (qB qIx (qVar 0) (qC (.s (.int 0)))) (qC (.s (.str "wood")))))))) [.sh (.tup [.str s, a, b]), .no] (!decide (s = "wood")) [.sh (.tup [.str s, a, b]), .no] := by
  have i0 : Ev (qB qIx (qVar 0) (qC (.s (.int 0)))) [.sh (.tup [.str s, a, b]), .no] (.s (.str s)) [.sh (.tup [.str s, a, b]), .no] := ev_BS (ev_v (v := .tup [.str s, a, b]) rfl) ev_c rfl
  exact ev_or (a := false) (ev_not (b := true) (isi_ty (ev_v (v := .tup [.str s, a, b]) rfl) rfl)) fun _ => ev_or (a := false) (len_ne (n := 0) (ev_v (v := .tup [.str s, a, b]) rfl) rfl) fun _ => ev_or (a := false) (ev_not (b := true) (isi_ty i0 rfl)) fun _ => ev_TS (ev_BS i0 (v2 := .str "wood") ev_c (ne_str hs (by decide +kernel)))
theorem now_word {s : Str} {a b : P} (hs : PyData.strOk s = true) (hn : s ≠ "wood") : NoW (.tup [.str s, a, b]) := by
  have h := w_first (a := a) (b := b) hs
  rw [decide_eq_false hn] at h
  exact evD_of (pe' := [.sh (.tup [.str s, a, b]), .no]) (evS_guard (b := true) h (fun _ => ⟨evS_ret ev_c, fun z => by cases z⟩) fun e => by cases e)
theorem now_wd {a b : P} {r : Bool} (h : EvS (qSeq (qIfS (qOr (qNot (qT (qCall 1 pd_p_is_scope (qCons (qB qIx (qVar 0) (qC (.s (.int 1)))) qNil)))) (qOr (qNot (qT (qArgs qIsi (qCons (qB qIx (qVar 0) (qC (.s (.int 2)))) (qCons (qC (.s (.ty "tuple"))) qNil))))) (qNot (qT (qChain qLe qLe (qC (.s (.int 1))) (qArgs qLen (qCons (qB qIx (qVar 0) (qC (.s (.int 2)))) qNil)) (qC (.s (.int 400))))))))
    (qRet (qC (.s (.bl false))))
    qNop)
    (qRet (qArgs qAll (qCons (qLc loopN [1] (qOverT (qB qIx (qVar 0) (qC (.s (.int 2))))) (tV 1) (qC true) (qCall 3 pd_p_is_node (qCons (qVar 1) (qCons (qB qIx (qVar 0) (qC (.s (.int 1)))) (qCons (qArgs qLen (qCons (qB qIx (qVar 0) (qC (.s (.int 2)))) qNil)) qNil))))) qNil)))) [.sh (wd a b), .no] (.rt false (.bl r)) [.sh (wd a b), .no]) : EvD pd_p_is_wood [.sh (wd a b)] (.ok (false, .bl r)) [.sh (wd a b)] := by
  have hf := w_first (s := "wood") (a := a) (b := b) (by decide +kernel)
  rw [decide_eq_true rfl] at hf
  exact evD_of (pe' := [.sh (wd a b), .no]) (evS_guard (b := false) hf (fun e => by cases e) fun _ => h)
theorem ix_wd1 {a b : P} {s : Sl} : Ev (qB qIx (qVar 0) (qC (.s (.int 1)))) [.sh (wd a b), s] (.s a) [.sh (wd a b), s] := ev_BS (ev_v (v := wd a b) rfl) ev_c rfl
theorem ix_wd2 {a b : P} {s : Sl} : Ev (qB qIx (qVar 0) (qC (.s (.int 2)))) [.sh (wd a b), s] (.s b) [.sh (wd a b), s] := ev_BS (ev_v (v := wd a b) rfl) ev_c rfl
theorem scope_val {xs : List Str} (h1 : xs.length ≤ 1000) (h2 : ∀ x ∈ xs, x.length ≤ 1000) : EvD pd_p_is_scope [.sh (.tup (xs.map P.str))] (.ok (false, .bl ((xs.all nameB && ascB xs) && decide ((xs.length : Int) ≤ 3)))) [.sh (.tup (xs.map P.str))] := by
  refine evD_of (pe' := [.sh (.tup (xs.map P.str))]) (evS_ret (ev_andV (a := xs.all nameB && ascB xs) (b := decide ((xs.length : Int) ≤ 3)) (ev_call1 (ev_v rfl) (names_tup h1 h2)) fun _ => ?_))
  refine ev_BS (v1 := .int xs.length) (v2 := .int 3) (ev_arg (v := .tup (xs.map P.str)) (ev_v rfl) ?_) ev_c rfl
  show some (false, P.int ((xs.map P.str).length : Nat)) = _
  rw [List.length_map]
theorem now_scope {xs : List Str} {b : P} (h1 : xs.length ≤ 1000) (h2 : ∀ x ∈ xs, x.length ≤ 1000) (h : ((xs.all nameB && ascB xs) && decide ((xs.length : Int) ≤ 3)) = false) : NoW (wd (.tup (xs.map P.str)) b) := by
  have hs := scope_val h1 h2
  rw [h] at hs
  exact now_wd (evS_guard (b := true) (ev_or (a := true) (b := true) (ev_not (b := false) (ev_TS (ev_call1 ix_wd1 hs))) fun e => by cases e) (fun _ => ⟨evS_ret ev_c, fun z => by cases z⟩) fun e => by cases e)
theorem now_rows {xs : List Str} (g : GoodSc xs) {b : P} (h : qIsi [b, .ty "tuple"] = some (false, .bl false)) : NoW (wd (.tup (xs.map P.str)) b) := now_wd (evS_guard (b := true) (ev_or (a := false) (ev_not (b := true) (ev_TS (ev_call1 ix_wd1 (scope_good g)))) fun _ => ev_or (a := true) (b := true) (ev_not (b := false) (isi_ty ix_wd2 h)) fun e => by cases e) (fun _ => ⟨evS_ret ev_c, fun z => by cases z⟩) fun e => by cases e)
theorem now_none {xs : List Str} (g : GoodSc xs) : NoW (wd (.tup (xs.map P.str)) (.tup [])) := now_wd (evS_guard (b := true) (ev_or (a := false) (ev_not (b := true) (ev_TS (ev_call1 ix_wd1 (scope_good g)))) fun _ => ev_or (a := false) (ev_not (b := true) (isi_ty ix_wd2 rfl)) fun _ => ev_not (b := false) (ev_TS (ev_chain (a := false) (b := false) (v1 := .int 1) (v2 := .int 0) (v3 := .int 400) ev_c (ev_arg ix_wd2 rfl) rfl fun e => by cases e))) (fun _ => ⟨evS_ret ev_c, fun z => by cases z⟩) fun e => by cases e)
theorem now_node {xs : List Str} (g : GoodSc xs) {n : P} (h : EvD pd_p_is_node [.sh n, .sh (.tup (xs.map P.str)), .sh (.int 1)] (.ok (false, .bl false)) [.sh n, .sh (.tup (xs.map P.str)), .sh (.int 1)]) : NoW (wd (.tup (xs.map P.str)) (.tup [n])) := now_wd (evS_guard (b := false) (ev_or (a := false) (ev_not (b := true) (ev_TS (ev_call1 ix_wd1 (scope_good g)))) fun _ => ev_or (a := false) (ev_not (b := true) (isi_ty ix_wd2 rfl)) fun _ => ev_not (b := true) (ev_TS (ev_chain (a := true) (b := true) (v1 := .int 1) (v2 := .int 1) (v3 := .int 400) ev_c (ev_arg ix_wd2 rfl) rfl fun _ => ⟨ev_c, rfl⟩))) (fun e => by cases e) fun _ => evS_ret (ev_allC (items := [n]) (fun _ => false) (ev_over (v := .tup [n]) ix_wd2 rfl rfl) (big_lp (Nat.le_of_ble_eq_true rfl)) (big_sz (Nat.le_of_ble_eq_true rfl)) rfl rfl fun y hy => by
  simp only [List.mem_cons, List.not_mem_nil, or_false] at hy
  subst hy
  exact ⟨_, rfl, rfl, ev_call3 (ev_v rfl) ix_wd1 (ev_arg ix_wd2 rfl) h⟩))
end L_k01

set_option maxHeartbeats 4000000
/-! M8: the bad things drawn, and what is told of them. -/
namespace L_k01
open PySem PyProof.Rows L2 S3
theorem add_lst {xs ys : List P} (h : xs.length + ys.length ≤ 10000) : qAdd (.lst xs, .lst ys) = some (true, .lst (xs ++ ys)) := by
  show (if xs.length + ys.length ≤ sizeLine then _ else none) = _
  rw [if_pos (big_sz h)]
def badA : List P := [.non, .int 5, .str "wood", .tup [.str "wood", .tup []], .tup [.str "wood", .tup [], .tup []], .tup [.str "wood", .tup [], .tup [.tup [.tup [], .int 0, .int 1]]], .tup [.str "wood", .tup [], .lst [one]], .tup [.str "wood", .tup [.str "a", .str "a"], .tup [one]]]
def badB : List P := [.tup [.str "wood", .tup [.str "b", .str "a"], .tup [one]], .tup [.str "wood", .tup [.str "a", .str "b", .str "c", .str "d"], .tup [one]], .tup [.str "wood", .tup [.str "a"], .tup [.tup [.tup [.str "b"], .int 0, .int 0]]]]
def badC : List P := [.tup [.str "wood", .tup [], .tup [.tup [.int 0, .int 0]]], .tup [.str "wood", .tup [], .tup [.tup [.tup [], .int 0, .bl true]]], .tup [.str "woods", .tup [], .tup [one]], .lst [.str "wood", .tup [], .tup [one]], .tup [.str "wood", .tup [], .tup [.tup [.tup [], .int (-1), .int 0]]]]
def badD : List P := [.tup [.str "wood", .tup [.str "A"], .tup [one]], .tup [.str "wood", .tup [.str "a"], .tup [.tup [.lst [.str "a"], .int 0, .int 0]]], .tup [.str "wood", .tup [], .tup [.tup [.tup [], .int 0, .int 0, .int 0]]]]
def badP : List P := [.non, .int 5, .lst [.int 0], .tup [.int 2], .tup [.bl true], .str "01", .tup [.int (-1)], .tup [.int 0, .str "1"], .tup [.tup [.int 0]]]
def badWoods : List P := badA ++ badB ++ badC ++ badD
theorem bad_wood_ok {b : Nat} (hb : 0 < b) : EvDN pd_bad_wood [.pa (.drw b)] fun r sls => (r.1 = false ∧ r.2 ∈ badWoods) ∧ sls = [.pa (.drw (b - 1))] := by
  refine evdn_of ?_
  show EvSN q_bad_wood [.pa (.drw b), .no, .no] _
  refine evsn_seqE (pe1 := [.pa (.drw b), .sh one, .no]) (evS_set (o := .s one) (ev_tup (vs := [.tup [], .int 0, .int 0]) (ev_cons (ev_tup (vs := []) ev_nil rfl (big_sz (Nat.le_of_ble_eq_true rfl))) (ev_cons ev_c (ev_one ev_c))) rfl (big_sz (Nat.le_of_ble_eq_true rfl))) rfl) ?_
  refine evsn_seqE (pe1 := [.pa (.drw b), .sh one, .ow (.lst badA)]) (evS_set (ev_lst (vs := badA) (ev_cons ev_c (ev_cons ev_c (ev_cons ev_c (ev_cons (ev_tup (vs := [.str "wood", .tup []]) (ev_cons ev_c (ev_one (ev_tup (vs := []) ev_nil rfl (big_sz (Nat.le_of_ble_eq_true rfl))))) rfl (big_sz (Nat.le_of_ble_eq_true rfl))) (ev_cons (ev_tup (vs := [.str "wood", .tup [], .tup []]) (ev_cons ev_c (ev_cons (ev_tup (vs := []) ev_nil rfl (big_sz (Nat.le_of_ble_eq_true rfl))) (ev_one (ev_tup (vs := []) ev_nil rfl (big_sz (Nat.le_of_ble_eq_true rfl)))))) rfl (big_sz (Nat.le_of_ble_eq_true rfl))) (ev_cons (ev_tup (vs := [.str "wood", .tup [], .tup [.tup [.tup [], .int 0, .int 1]]]) (ev_cons ev_c (ev_cons (ev_tup (vs := []) ev_nil rfl (big_sz (Nat.le_of_ble_eq_true rfl))) (ev_one (ev_tup (vs := [.tup [.tup [], .int 0, .int 1]]) (ev_one (ev_tup (vs := [.tup [], .int 0, .int 1]) (ev_cons (ev_tup (vs := []) ev_nil rfl (big_sz (Nat.le_of_ble_eq_true rfl))) (ev_cons ev_c (ev_one ev_c))) rfl (big_sz (Nat.le_of_ble_eq_true rfl)))) rfl (big_sz (Nat.le_of_ble_eq_true rfl)))))) rfl (big_sz (Nat.le_of_ble_eq_true rfl))) (ev_cons (ev_tup (vs := [.str "wood", .tup [], .lst [one]]) (ev_cons ev_c (ev_cons (ev_tup (vs := []) ev_nil rfl (big_sz (Nat.le_of_ble_eq_true rfl))) (ev_one (ev_lst (vs := [one]) (ev_one (ev_v (v := one) rfl)) rfl (big_sz (Nat.le_of_ble_eq_true rfl)))))) rfl (big_sz (Nat.le_of_ble_eq_true rfl))) (ev_one (ev_tup (vs := [.str "wood", .tup [.str "a", .str "a"], .tup [one]]) (ev_cons ev_c (ev_cons (ev_tup (vs := [.str "a", .str "a"]) (ev_cons ev_c (ev_one ev_c)) rfl (big_sz (Nat.le_of_ble_eq_true rfl))) (ev_one (ev_tup (vs := [one]) (ev_one (ev_v (v := one) rfl)) rfl (big_sz (Nat.le_of_ble_eq_true rfl)))))) rfl (big_sz (Nat.le_of_ble_eq_true rfl))))))))))) rfl (big_sz (Nat.le_of_ble_eq_true rfl))) rfl) ?_
  refine evsn_seqE (pe1 := [.pa (.drw b), .sh one, .ow (.lst (badA ++ badB))]) (evS_set (ev_BT (u := (.lst badA, .lst badB)) (ev_k (v := .lst badA) rfl) (ev_lst (vs := badB) (ev_cons (ev_tup (vs := [.str "wood", .tup [.str "b", .str "a"], .tup [one]]) (ev_cons ev_c (ev_cons (ev_tup (vs := [.str "b", .str "a"]) (ev_cons ev_c (ev_one ev_c)) rfl (big_sz (Nat.le_of_ble_eq_true rfl))) (ev_one (ev_tup (vs := [one]) (ev_one (ev_v (v := one) rfl)) rfl (big_sz (Nat.le_of_ble_eq_true rfl)))))) rfl (big_sz (Nat.le_of_ble_eq_true rfl))) (ev_cons (ev_tup (vs := [.str "wood", .tup [.str "a", .str "b", .str "c", .str "d"], .tup [one]]) (ev_cons ev_c (ev_cons (ev_tup (vs := [.str "a", .str "b", .str "c", .str "d"]) (ev_cons ev_c (ev_cons ev_c (ev_cons ev_c (ev_one ev_c)))) rfl (big_sz (Nat.le_of_ble_eq_true rfl))) (ev_one (ev_tup (vs := [one]) (ev_one (ev_v (v := one) rfl)) rfl (big_sz (Nat.le_of_ble_eq_true rfl)))))) rfl (big_sz (Nat.le_of_ble_eq_true rfl))) (ev_one (ev_tup (vs := [.str "wood", .tup [.str "a"], .tup [.tup [.tup [.str "b"], .int 0, .int 0]]]) (ev_cons ev_c (ev_cons (ev_tup (vs := [.str "a"]) (ev_one ev_c) rfl (big_sz (Nat.le_of_ble_eq_true rfl))) (ev_one (ev_tup (vs := [.tup [.tup [.str "b"], .int 0, .int 0]]) (ev_one (ev_tup (vs := [.tup [.str "b"], .int 0, .int 0]) (ev_cons (ev_tup (vs := [.str "b"]) (ev_one ev_c) rfl (big_sz (Nat.le_of_ble_eq_true rfl))) (ev_cons ev_c (ev_one ev_c))) rfl (big_sz (Nat.le_of_ble_eq_true rfl)))) rfl (big_sz (Nat.le_of_ble_eq_true rfl)))))) rfl (big_sz (Nat.le_of_ble_eq_true rfl)))))) rfl (big_sz (Nat.le_of_ble_eq_true rfl))) rfl (add_lst (Nat.le_of_ble_eq_true rfl))) rfl) ?_
  refine evsn_seqE (pe1 := [.pa (.drw b), .sh one, .ow (.lst (badA ++ badB ++ badC))]) (evS_set (ev_BT (u := (.lst (badA ++ badB), .lst badC)) (ev_k (v := .lst (badA ++ badB)) rfl) (ev_lst (vs := badC) (ev_cons (ev_tup (vs := [.str "wood", .tup [], .tup [.tup [.int 0, .int 0]]]) (ev_cons ev_c (ev_cons (ev_tup (vs := []) ev_nil rfl (big_sz (Nat.le_of_ble_eq_true rfl))) (ev_one (ev_tup (vs := [.tup [.int 0, .int 0]]) (ev_one (ev_tup (vs := [.int 0, .int 0]) (ev_cons ev_c (ev_one ev_c)) rfl (big_sz (Nat.le_of_ble_eq_true rfl)))) rfl (big_sz (Nat.le_of_ble_eq_true rfl)))))) rfl (big_sz (Nat.le_of_ble_eq_true rfl))) (ev_cons (ev_tup (vs := [.str "wood", .tup [], .tup [.tup [.tup [], .int 0, .bl true]]]) (ev_cons ev_c (ev_cons (ev_tup (vs := []) ev_nil rfl (big_sz (Nat.le_of_ble_eq_true rfl))) (ev_one (ev_tup (vs := [.tup [.tup [], .int 0, .bl true]]) (ev_one (ev_tup (vs := [.tup [], .int 0, .bl true]) (ev_cons (ev_tup (vs := []) ev_nil rfl (big_sz (Nat.le_of_ble_eq_true rfl))) (ev_cons ev_c (ev_one ev_c))) rfl (big_sz (Nat.le_of_ble_eq_true rfl)))) rfl (big_sz (Nat.le_of_ble_eq_true rfl)))))) rfl (big_sz (Nat.le_of_ble_eq_true rfl))) (ev_cons (ev_tup (vs := [.str "woods", .tup [], .tup [one]]) (ev_cons ev_c (ev_cons (ev_tup (vs := []) ev_nil rfl (big_sz (Nat.le_of_ble_eq_true rfl))) (ev_one (ev_tup (vs := [one]) (ev_one (ev_v (v := one) rfl)) rfl (big_sz (Nat.le_of_ble_eq_true rfl)))))) rfl (big_sz (Nat.le_of_ble_eq_true rfl))) (ev_cons (ev_lst (vs := [.str "wood", .tup [], .tup [one]]) (ev_cons ev_c (ev_cons (ev_tup (vs := []) ev_nil rfl (big_sz (Nat.le_of_ble_eq_true rfl))) (ev_one (ev_tup (vs := [one]) (ev_one (ev_v (v := one) rfl)) rfl (big_sz (Nat.le_of_ble_eq_true rfl)))))) rfl (big_sz (Nat.le_of_ble_eq_true rfl))) (ev_one (ev_tup (vs := [.str "wood", .tup [], .tup [.tup [.tup [], .int (-1), .int 0]]]) (ev_cons ev_c (ev_cons (ev_tup (vs := []) ev_nil rfl (big_sz (Nat.le_of_ble_eq_true rfl))) (ev_one (ev_tup (vs := [.tup [.tup [], .int (-1), .int 0]]) (ev_one (ev_tup (vs := [.tup [], .int (-1), .int 0]) (ev_cons (ev_tup (vs := []) ev_nil rfl (big_sz (Nat.le_of_ble_eq_true rfl))) (ev_cons (ev_U ev_c rfl rfl) (ev_one ev_c))) rfl (big_sz (Nat.le_of_ble_eq_true rfl)))) rfl (big_sz (Nat.le_of_ble_eq_true rfl)))))) rfl (big_sz (Nat.le_of_ble_eq_true rfl)))))))) rfl (big_sz (Nat.le_of_ble_eq_true rfl))) rfl (add_lst (Nat.le_of_ble_eq_true rfl))) rfl) ?_
  refine evsn_ret (evn_callL (Ev.n (ev_cons (ev_kp (v := .drw b) rfl) (ev_one (ev_BT (u := (.lst (badA ++ badB ++ badC), .lst badD)) (ev_k (v := .lst (badA ++ badB ++ badC)) rfl) (ev_lst (vs := badD) (ev_cons (ev_tup (vs := [.str "wood", .tup [.str "A"], .tup [one]]) (ev_cons ev_c (ev_cons (ev_tup (vs := [.str "A"]) (ev_one ev_c) rfl (big_sz (Nat.le_of_ble_eq_true rfl))) (ev_one (ev_tup (vs := [one]) (ev_one (ev_v (v := one) rfl)) rfl (big_sz (Nat.le_of_ble_eq_true rfl)))))) rfl (big_sz (Nat.le_of_ble_eq_true rfl))) (ev_cons (ev_tup (vs := [.str "wood", .tup [.str "a"], .tup [.tup [.lst [.str "a"], .int 0, .int 0]]]) (ev_cons ev_c (ev_cons (ev_tup (vs := [.str "a"]) (ev_one ev_c) rfl (big_sz (Nat.le_of_ble_eq_true rfl))) (ev_one (ev_tup (vs := [.tup [.lst [.str "a"], .int 0, .int 0]]) (ev_one (ev_tup (vs := [.lst [.str "a"], .int 0, .int 0]) (ev_cons (ev_lst (vs := [.str "a"]) (ev_one ev_c) rfl (big_sz (Nat.le_of_ble_eq_true rfl))) (ev_cons ev_c (ev_one ev_c))) rfl (big_sz (Nat.le_of_ble_eq_true rfl)))) rfl (big_sz (Nat.le_of_ble_eq_true rfl)))))) rfl (big_sz (Nat.le_of_ble_eq_true rfl))) (ev_one (ev_tup (vs := [.str "wood", .tup [], .tup [.tup [.tup [], .int 0, .int 0, .int 0]]]) (ev_cons ev_c (ev_cons (ev_tup (vs := []) ev_nil rfl (big_sz (Nat.le_of_ble_eq_true rfl))) (ev_one (ev_tup (vs := [.tup [.tup [], .int 0, .int 0, .int 0]]) (ev_one (ev_tup (vs := [.tup [], .int 0, .int 0, .int 0]) (ev_cons (ev_tup (vs := []) ev_nil rfl (big_sz (Nat.le_of_ble_eq_true rfl))) (ev_cons ev_c (ev_cons ev_c (ev_one ev_c)))) rfl (big_sz (Nat.le_of_ble_eq_true rfl)))) rfl (big_sz (Nat.le_of_ble_eq_true rfl)))))) rfl (big_sz (Nat.le_of_ble_eq_true rfl)))))) rfl (big_sz (Nat.le_of_ble_eq_true rfl))) rfl (add_lst (Nat.le_of_ble_eq_true rfl))))) ⟨0, _, [.lst badWoods], _, .drw b, rfl, rfl, rfl, rfl, ?_⟩))
  refine (pick5 (xs := badWoods) hb (by decide) (by decide)).mono ?_
  rintro ⟨rb, rv⟩ sls ⟨⟨rfl, hr⟩, rfl⟩
  exact ⟨_, _, rfl, .inl ⟨_, rfl, false, _, rfl, ⟨rfl, hr⟩, rfl⟩⟩
theorem bad_place_ok {b : Nat} (hb : 0 < b) : EvDN pd_bad_place [.pa (.drw b)] fun r sls => (r.1 = false ∧ r.2 ∈ badP) ∧ sls = [.pa (.drw (b - 1))] := by
  refine evdn_of ?_
  show EvSN q_bad_place [.pa (.drw b)] _
  refine evsn_ret (evn_callL (Ev.n (ev_cons (ev_kp (v := .drw b) rfl) (ev_one (ev_lst (vs := badP) (ev_cons ev_c (ev_cons ev_c (ev_cons (ev_lst (vs := [.int 0]) (ev_one ev_c) rfl (big_sz (Nat.le_of_ble_eq_true rfl))) (ev_cons (ev_tup (vs := [.int 2]) (ev_one ev_c) rfl (big_sz (Nat.le_of_ble_eq_true rfl))) (ev_cons (ev_tup (vs := [.bl true]) (ev_one ev_c) rfl (big_sz (Nat.le_of_ble_eq_true rfl))) (ev_cons ev_c (ev_cons (ev_tup (vs := [.int (-1)]) (ev_one (ev_U ev_c rfl rfl)) rfl (big_sz (Nat.le_of_ble_eq_true rfl))) (ev_cons (ev_tup (vs := [.int 0, .str "1"]) (ev_cons ev_c (ev_one ev_c)) rfl (big_sz (Nat.le_of_ble_eq_true rfl))) (ev_one (ev_tup (vs := [.tup [.int 0]]) (ev_one (ev_tup (vs := [.int 0]) (ev_one ev_c) rfl (big_sz (Nat.le_of_ble_eq_true rfl)))) rfl (big_sz (Nat.le_of_ble_eq_true rfl)))))))))))) rfl (big_sz (Nat.le_of_ble_eq_true rfl))))) ⟨0, _, [.lst badP], _, .drw b, rfl, rfl, rfl, rfl, ?_⟩))
  refine (pick5 (xs := badP) hb (by decide) (by decide)).mono ?_
  rintro ⟨rb, rv⟩ sls ⟨⟨rfl, hr⟩, rfl⟩
  exact ⟨_, _, rfl, .inl ⟨_, rfl, false, _, rfl, ⟨rfl, hr⟩, rfl⟩⟩
/-! ### nodes that are none -/
def Num (v : P) (e : Int) (b : Bool) : Prop := EvD pd_p_is_number [.sh v, .sh (.int e)] (.ok (false, .bl b)) [.sh v, .sh (.int e)]
theorem num_bl {b : Bool} {e : Int} : Num (.bl b) e false := evD_of (pe' := [.sh (.bl b), .sh (.int e)]) (evS_ret (ev_andV (a := true) (b := false) (ev_args (ev_cons (ev_v (v := .bl b) rfl) (ev_one ev_c)) rfl rfl) fun _ => ev_andV (a := false) (b := false) (ev_notV (a := true) (ev_args (ev_cons (ev_v (v := .bl b) rfl) (ev_one ev_c)) rfl rfl)) fun z => by cases z))
theorem num_no {v : P} {e : Int} (h : qIsi [v, .ty "int"] = some (false, .bl false)) : Num v e false := evD_of (pe' := [.sh v, .sh (.int e)]) (evS_ret (ev_andV (a := false) (b := false) (ev_args (ev_cons (ev_v (v := v) rfl) (ev_one ev_c)) rfl h) fun z => by cases z))
theorem nod_len {vs : List P} {sc : P} (h : vs.length ≠ 3) : EvD pd_p_is_node [.sh (.tup vs), .sh sc, .sh (.int 1)] (.ok (false, .bl false)) [.sh (.tup vs), .sh sc, .sh (.int 1)] := evD_of (pe' := [.sh (.tup vs), .sh sc, .sh (.int 1), .no]) (evS_guard (b := true) (ev_or (a := false) (b := true) (ev_not (b := true) (isi_ty (ev_v (v := .tup vs) rfl) rfl)) fun _ => by
  have e1 : (!decide ((vs.length : Int) = 3)) = true := by
    have : ¬ ((vs.length : Int) = 3) := by omega
    simp [this]
  exact ev_or (a := true) (b := true) (by
    have := len_ne (n := 0) (ev_v (pe := [.sh (.tup vs), .sh sc, .sh (.int 1), .no]) (i := 0) (v := .tup vs) rfl) rfl
    rw [e1] at this
    exact this) fun e => by cases e) (fun _ => ⟨evS_ret ev_c, fun z => by cases z⟩) fun e => by cases e)
theorem ix_n {x y z a b c : P} : Ev (qB qIx (qVar 0) (qC (.s (.int 0)))) [.sh (.tup [x, y, z]), .sh a, .sh b, .sh c] (.s x) [.sh (.tup [x, y, z]), .sh a, .sh b, .sh c] := ev_BS (ev_v (v := .tup [x, y, z]) rfl) ev_c rfl
theorem nod_list {x y sc : P} {l : List P} : EvD pd_p_is_node [.sh (.tup [.lst l, x, y]), .sh sc, .sh (.int 1)] (.ok (false, .bl false)) [.sh (.tup [.lst l, x, y]), .sh sc, .sh (.int 1)] := by
  have v0 : Ev (qVar 0) [.sh (.tup [.lst l, x, y]), .sh sc, .sh (.int 1), .no] (.s (.tup [.lst l, x, y])) [.sh (.tup [.lst l, x, y]), .sh sc, .sh (.int 1), .no] := ev_v rfl
  have hn : EvD pd_p_are_names [.sh (.lst l)] (.ok (false, .bl false)) [.sh (.lst l)] := evD_of (pe' := [.sh (.lst l), .no, .no, .no]) (evS_guard (b := true) (ev_or (a := true) (b := true) (ev_not (b := false) (isi_ty (ev_v (v := .lst l) rfl) rfl)) fun e => by cases e) (fun _ => ⟨evS_ret ev_c, fun z => by cases z⟩) fun e => by cases e)
  exact evD_of (pe' := [.sh (.tup [.lst l, x, y]), .sh sc, .sh (.int 1), .no]) (evS_guard (b := true) (ev_or (a := false) (b := true) (ev_not (b := true) (isi_ty v0 rfl)) fun _ => ev_or (a := false) (b := true) (len_ne (n := 0) v0 rfl) fun _ => ev_not (b := false) (ev_TS (ev_call1 (ev_BS v0 (v2 := .int 0) ev_c rfl) hn))) (fun _ => ⟨evS_ret ev_c, fun z => by cases z⟩) fun e => by cases e)
theorem nod_val {l xs : List Str} (g : GoodSc l) {x y : P} {bx bY r : Bool} (hx : Num x 1 bx) (hy : Num y 1 bY) (hr : ((l.all fun s => inV (.str s) (xs.map V.str)) && (bx && bY)) = r) : EvD pd_p_is_node [.sh (.tup [.tup (l.map P.str), x, y]), .sh (.tup (xs.map P.str)), .sh (.int 1)] (.ok (false, .bl r)) [.sh (.tup [.tup (l.map P.str), x, y]), .sh (.tup (xs.map P.str)), .sh (.int 1)] := by
  subst hr
  have hl3 := g.len
  let pe : PEnv := [.sh (.tup [.tup (l.map P.str), x, y]), .sh (.tup (xs.map P.str)), .sh (.int 1), .no]
  have v0 : Ev (qVar 0) pe (.s (.tup [.tup (l.map P.str), x, y])) pe := ev_v rfl
  have i0 : Ev (qB qIx (qVar 0) (qC (.s (.int 0)))) pe (.s (.tup (l.map P.str))) pe := ev_BS v0 (v2 := .int 0) ev_c rfl
  have i1 : Ev (qB qIx (qVar 0) (qC (.s (.int 1)))) pe (.s x) pe := ev_BS v0 (v2 := .int 1) ev_c rfl
  have i2 : Ev (qB qIx (qVar 0) (qC (.s (.int 2)))) pe (.s y) pe := ev_BS v0 (v2 := .int 2) ev_c rfl
  refine evD_of (pe' := pe) (evS_guard (b := false) (ev_or (a := false) (b := false) (ev_not (b := true) (isi_ty v0 rfl)) fun _ => ev_or (a := false) (b := false) (len_ne (n := 0) v0 rfl) fun _ => ev_not (b := true) (ev_TS (ev_call1 i0 (names_good g)))) (fun e => by cases e) fun _ => ?_)
  have hall := ev_allC (n := loopN) (vs := [3]) (t := tV 3) (qe := qB (qIn false) (qVar 3) (qVar 1)) (pe := pe) (pe1 := pe) (pe2 := pe) (items := l.map P.str) (fun p => match p with
      | .str s => inV (.str s) (xs.map V.str)
      | _ => false) (ev_over (f := pseqT) (v := .tup (l.map P.str)) i0 rfl rfl) (by rw [List.length_map]; exact big_lp (by omega)) (by rw [List.length_map]; exact big_sz (by omega)) rfl rfl fun y hy => by
    obtain ⟨s, hs, rfl⟩ := List.mem_map.mp hy
    refine ⟨_, rfl, rfl, ev_BS (v1 := .str s) (v2 := .tup (xs.map P.str)) (ev_v rfl) (ev_v rfl) ?_⟩
    show (match psclA (xs.map P.str) with | some us => some (false, P.bl (inV (.str s) us)) | none => none) = _
    rw [psclA_strs]
  rw [List.all_map] at hall
  exact evS_ret (ev_andV hall fun _ => ev_andV (ev_call2 i1 (ev_v rfl) hx) fun _ => ev_call2 i2 (ev_v rfl) hy)
theorem sc0 : GoodSc [] := ⟨by decide, by simp, by simp, rfl⟩
theorem scA : GoodSc ["a"] := ⟨by decide, by simp; decide +kernel, by simp; decide +kernel, rfl⟩
theorem scB : GoodSc ["b"] := ⟨by decide, by simp; decide +kernel, by simp; decide +kernel, rfl⟩
theorem num_i {i e : Int} : Num (.int i) e (decide (0 ≤ i) && decide (i < e)) := num_int
theorem now_bad : ∀ v ∈ badWoods, NoW v := by
  intro v hv
  simp only [badWoods, badA, badB, badC, badD, List.cons_append, List.nil_append, List.mem_cons, List.not_mem_nil, or_false] at hv
  rcases hv with rfl | rfl | rfl | rfl | rfl | rfl | rfl | rfl | rfl | rfl | rfl | rfl | rfl | rfl | rfl | rfl | rfl | rfl | rfl
  · exact now_type rfl
  · exact now_type rfl
  · exact now_type rfl
  · exact now_len (by decide)
  · exact now_none (xs := []) sc0
  · exact now_node (xs := []) sc0 (nod_val (l := []) (xs := []) sc0 (num_i (i := 0)) (num_i (i := 1)) rfl)
  · exact now_rows (xs := []) sc0 rfl
  · exact now_scope (xs := ["a", "a"]) (by decide) (by simp; decide +kernel) (by decide +kernel)
  · exact now_scope (xs := ["b", "a"]) (by decide) (by simp; decide +kernel) (by decide +kernel)
  · exact now_scope (xs := ["a", "b", "c", "d"]) (by decide) (by simp; decide +kernel) (by decide +kernel)
  · exact now_node (xs := ["a"]) scA (nod_val (l := ["b"]) (xs := ["a"]) scB (num_i (i := 0)) (num_i (i := 0)) (by decide +kernel))
  · exact now_node (xs := []) sc0 (nod_len (by decide))
  · exact now_node (xs := []) sc0 (nod_val (l := []) (xs := []) sc0 (num_i (i := 0)) num_bl rfl)
  · exact now_word (by decide +kernel) (by decide +kernel)
  · exact now_type rfl
  · exact now_node (xs := []) sc0 (nod_val (l := []) (xs := []) sc0 (num_i (i := -1)) (num_i (i := 0)) rfl)
  · exact now_scope (xs := ["A"]) (by decide) (by simp; decide +kernel) (by decide +kernel)
  · exact now_node (xs := ["a"]) scA nod_list
  · exact now_node (xs := []) sc0 (nod_len (by decide))
theorem need_er {v : P} (h : NoW v) : EvD pd_p_need_wood [.sh v] (.er 2) [.sh v] := evD_er (pe' := [.sh v]) (evS_if (b := true) (ev_not (b := false) (ev_TS (ev_call1 (ev_v rfl) h))) (fun _ K hK => hK) fun e => by cases e)
/-! ### places that are none -/
def NoP (v : P) : Prop := EvD pd_p_is_place [.sh v] (.ok (false, .bl false)) [.sh v]
theorem nop_type {v : P} (h : qIsi [v, .ty "tuple"] = some (false, .bl false)) : NoP v := evD_of (pe' := [.sh v, .no]) (evS_ret (ev_andV (a := false) (b := false) (ev_args (ev_cons (ev_v (v := v) rfl) (ev_one ev_c)) rfl h) fun z => by cases z))
theorem nop_tup {vs : List P} (f : P → Bool) (hl : vs.length ≤ 100) (h : ∀ v ∈ vs, Num v 2 (f v)) (ha : vs.all f = false) : NoP (.tup vs) := by
  have hall := ev_allC (n := loopN) (vs := [1]) (ps := qOverT (qVar 0)) (t := tV 1) (qe := qCall 2 pd_p_is_number (qCons (qVar 1) (qCons (qC (.s (.int 2))) qNil))) (pe := [.sh (.tup vs), .no]) (pe1 := [.sh (.tup vs), .no]) (pe2 := [.sh (.tup vs), .no]) (items := vs) f (ev_over (v := .tup vs) (ev_v rfl) rfl rfl) (big_lp (by omega)) (big_sz (by omega)) rfl rfl fun y hy => ⟨_, rfl, rfl, ev_call2 (ev_v (v := y) rfl) ev_c (h y hy)⟩
  rw [ha] at hall
  exact evD_of (pe' := [.sh (.tup vs), .no]) (evS_ret (ev_andV (a := true) (b := false) (ev_args (ev_cons (ev_v (v := .tup vs) rfl) (ev_one ev_c)) rfl rfl) fun _ => hall))
theorem nop_bad : ∀ v ∈ badP, NoP v := by
  intro v hv
  simp only [badP, List.mem_cons, List.not_mem_nil, or_false] at hv
  rcases hv with rfl | rfl | rfl | rfl | rfl | rfl | rfl | rfl | rfl
  · exact nop_type rfl
  · exact nop_type rfl
  · exact nop_type rfl
  · exact nop_tup (fun _ => false) (by decide) (fun v hv => by simp at hv; subst hv; exact num_i (i := 2)) rfl
  · exact nop_tup (fun _ => false) (by decide) (fun v hv => by simp at hv; subst hv; exact num_bl) rfl
  · exact nop_type rfl
  · exact nop_tup (fun _ => false) (by decide) (fun v hv => by simp at hv; subst hv; exact num_i (i := -1)) rfl
  · exact nop_tup (fun v => match v with | .int _ => true | _ => false) (by decide) (fun v hv => by
      simp at hv
      rcases hv with rfl | rfl
      · exact num_i (i := 0)
      · exact num_no rfl) rfl
  · exact nop_tup (fun _ => false) (by decide) (fun v hv => by simp at hv; subst hv; exact num_no rfl) rfl
theorem place_er {v : P} (h : NoP v) : EvD pd_p_need_place [.sh v] (.er 1) [.sh v] := evD_er (pe' := [.sh v]) (evS_if (b := true) (ev_not (b := false) (ev_TS (ev_call1 (ev_v rfl) h))) (fun _ K hK => hK) fun e => by cases e)
/-- both questions, at a bad wood -/
theorem both_w {v u : P} (h : NoW v) (j : Nat) (hj : j < 2) : ∃ pd, pft_p_node_at_p_within j = some (2, pd) ∧ EvD pd [.sh v, .sh u] (.er 2) [.sh v, .sh u] := by
  match j, hj with
  | 0, _ => exact ⟨_, rfl, evD_er (pe' := [.sh v, .sh u]) (evS_er (evS_dropE (evE_call1 (ev_v rfl) (need_er h))))⟩
  | 1, _ => exact ⟨_, rfl, evD_er (pe' := [.sh v, .sh u]) (evS_er (evS_dropE (evE_call1 (ev_v rfl) (need_er h))))⟩
theorem both_p {w : Wo} (g : GoodW w) {u : P} (h : NoP u) (j : Nat) (hj : j < 2) : ∃ pd, pft_p_node_at_p_within j = some (2, pd) ∧ EvD pd [.sh (pW w), .sh u] (.er 1) [.sh (pW w), .sh u] := by
  match j, hj with
  | 0, _ => exact ⟨_, rfl, evD_er (pe' := [.sh (pW w), .sh u]) (evS_seq (evS_drop (ev_call1 (ev_v rfl) (need_wood_good g))) (evS_er (evS_dropE (evE_call1 (ev_v rfl) (place_er h)))))⟩
  | 1, _ => exact ⟨_, rfl, evD_er (pe' := [.sh (pW w), .sh u]) (evS_seq (evS_drop (ev_call1 (ev_v rfl) (need_wood_good g))) (evS_er (evS_dropE (evE_call1 (ev_v rfl) (place_er h)))))⟩
end L_k01

set_option maxHeartbeats 4000000
/-! M9: the law. -/
namespace L_k01
open PySem PyProof.Rows L2 S3
def NPa (s : Sl) : Prop := ∀ v, s ≠ .pa v
theorem npa_no : NPa .no := fun v h => by cases h
theorem npa_sh {u : P} : NPa (.sh u) := fun v h => by cases h
theorem asg_s {pe : PEnv} {i : Nat} {v : P} {s : Sl} (h : pe[i]? = some s) (hn : NPa s) : asg1 i (.s v) pe = some (pe.set i (.sh v)) := tV_ok h hn
section
variable {pe pe1 pe2 : PEnv} {p1 p2 : PM Opd}
theorem ev_callK2 {pd : PD} {v1 v2 w : P} {sls : List Sl} (h1 : Ev p1 pe (.s v1) pe1) (h2 : Ev p2 pe1 (.s v2) pe2) (hd : EvD pd [.sh v2, .sh v1] (.ok (false, w)) sls) : Ev (qCallK [1, 0] pd (qCons p1 (qCons p2 qNil))) pe (.s w) pe2 := (ev_cons h1 (ev_one h2)).b fun K hK => ⟨rfl, hd _ hK⟩
end
abbrev envM (ns : List Int) (c : Nat) (s2 s3 s4 s5 s6 s7 s8 s9 s10 : Sl) : PEnv := [.sh (.lcon (ns.map P.int)), .ow (.drw c), s2, s3, s4, s5, s6, s7, s8, s9, s10]
def qLap : PS := (qSeq (qSet 4 (qCallL 2 pd_place (qCons (qVar 1) (qCons (qC (.s (.int 40))) qNil))))
    (qSeq (qSet 5 (qCall 2 pd_at (qCons (qVar 9) (qCons (qVar 4) qNil))))
    (qSeq (qSet 6 (qCall 3 pd_numbered (qCons (qB qIx (qVar 9) (qC (.s (.int 1)))) (qCons (qVar 5) (qCons (qB qIx (qVar 9) (qC (.s (.int 2)))) qNil)))))
    (qSeq (qIfS (qT (qB qNe (qArgs qRepr (qCons (qLst (qCons (qCall 2 pd_p_node_at (qCons (qVar 9) (qCons (qVar 4) qNil))) (qCons (qCallK [1, 0] pd_p_node_at (qCons (qVar 4) (qCons (qVar 9) qNil))) qNil))) qNil)) (qArgs qRepr (qCons (qLst (qCons (qVar 5) (qCons (qVar 5) qNil))) qNil))))
    (qRet (qC (.s (.bl false))))
    qNop)
    (qIfS (qT (qB qNe (qArgs qRepr (qCons (qLst (qCons (qCall 2 pd_p_within (qCons (qVar 9) (qCons (qVar 4) qNil))) (qCons (qCallK [1, 0] pd_p_within (qCons (qVar 4) (qCons (qVar 9) qNil))) qNil))) qNil)) (qArgs qRepr (qCons (qLst (qCons (qVar 6) (qCons (qVar 6) qNil))) qNil))))
    (qRet (qC (.s (.bl false))))
    qNop)))))
theorem lap_ok {w : Wo} (f : Fine w) {ns : List Int} {c : Nat} (hc : 200 < c) {s2 s3 s4 s5 s6 s7 s8 s10 : Sl} (h4 : NPa s4) (h5 : NPa s5) (h6 : NPa s6) : EvSN qLap (envM ns c s2 s3 s4 s5 s6 s7 s8 (.sh (pW w)) s10) fun r pe => r = .nx ∧ ∃ c' t4 t5 t6, NPa t4 ∧ NPa t5 ∧ NPa t6 ∧ c ≤ c' + 41 ∧ pe = envM ns c' s2 s3 t4 t5 t6 s7 s8 (.sh (pW w)) s10 := by
  refine evsn_seq (M := fun pe => ∃ (pl : List Bool) (c' : Nat), pl.length ≤ 40 ∧ c ≤ c' + 41 ∧ pe = envM ns c' s2 s3 (.sh (.tup (pl.map wayP))) s5 s6 s7 s8 (.sh (pW w)) s10) ?_ ?_
  · refine evsn_set (evn_callL (Ev.n (ev_cons (ev_k (v := .drw c) rfl) (ev_one ev_c)) ⟨1, [.s (.int 40)], [.int 40], _, .drw c, rfl, rfl, rfl, rfl, (place_ok (by omega)).mono ?_⟩))
    rintro r sls ⟨pl, c', rfl, hl, hc', rfl⟩
    exact ⟨_, _, rfl, _, asg_s (s := s4) rfl h4, rfl, pl, c', hl, hc', rfl⟩
  · rintro pe ⟨pl, c', hl, hc', rfl⟩
    have hat := atW_lt f.g pl
    have l6 := f.l6
    refine evsn_seqE (pe1 := envM ns c' s2 s3 (.sh (.tup (pl.map wayP))) (.sh (intP (atW w pl))) s6 s7 s8 (.sh (pW w)) s10) (evS_set (ev_call2 (ev_v rfl) (ev_v rfl) (at_ok f.g (by omega))) (asg_s (s := s5) rfl h5)) ?_
    refine evsn_seqE (pe1 := envM ns c' s2 s3 (.sh (.tup (pl.map wayP))) (.sh (intP (atW w pl))) (.sh (pW (numW w (atW w pl)))) s7 s8 (.sh (pW w)) s10) (evS_set (ev_call3 (ev_BS (ev_v (v := pW w) rfl) (v2 := .int 1) ev_c rfl) (ev_v rfl) (ev_BS (ev_v (v := pW w) rfl) (v2 := .int 2) ev_c rfl) (numbered_ok f.g hat)) (asg_s (s := s6) rfl h6)) ?_
    have r1 := rp_small (i := atW w pl) (by omega)
    obtain ⟨d2, r2⟩ := rp_num f hat
    let pe1 : PEnv := envM ns c' s2 s3 (.sh (.tup (pl.map wayP))) (.sh (intP (atW w pl))) (.sh (pW (numW w (atW w pl)))) s7 s8 (.sh (pW w)) s10
    have n1 : Ev (qB qNe (qArgs qRepr (qCons (qLst (qCons (qCall 2 pd_p_node_at (qCons (qVar 9) (qCons (qVar 4) qNil))) (qCons (qCallK [1, 0] pd_p_node_at (qCons (qVar 4) (qCons (qVar 9) qNil))) qNil))) qNil)) (qArgs qRepr (qCons (qLst (qCons (qVar 5) (qCons (qVar 5) qNil))) qNil))) pe1 (.s (.bl false)) pe1 := ne_repr (ev_lst (vs := [intP (atW w pl), intP (atW w pl)]) (ev_cons (ev_call2 (ev_v (v := pW w) rfl) (ev_v (v := .tup (pl.map wayP)) rfl) (node_at_ok f.g (by omega))) (ev_one (ev_callK2 (ev_v (v := .tup (pl.map wayP)) rfl) (ev_v (v := pW w) rfl) (node_at_ok f.g (by omega))))) rfl (big_sz (Nat.le_of_ble_eq_true rfl))) (ev_lst (vs := [intP (atW w pl), intP (atW w pl)]) (ev_cons (ev_v (v := intP (atW w pl)) rfl) (ev_one (ev_v (v := intP (atW w pl)) rfl))) rfl (big_sz (Nat.le_of_ble_eq_true rfl))) r1 (by omega) (by omega)
    have n2 : Ev (qB qNe (qArgs qRepr (qCons (qLst (qCons (qCall 2 pd_p_within (qCons (qVar 9) (qCons (qVar 4) qNil))) (qCons (qCallK [1, 0] pd_p_within (qCons (qVar 4) (qCons (qVar 9) qNil))) qNil))) qNil)) (qArgs qRepr (qCons (qLst (qCons (qVar 6) (qCons (qVar 6) qNil))) qNil))) pe1 (.s (.bl false)) pe1 := ne_repr (ev_lst (vs := [pW (numW w (atW w pl)), pW (numW w (atW w pl))]) (ev_cons (ev_call2 (ev_v (v := pW w) rfl) (ev_v (v := .tup (pl.map wayP)) rfl) (within_ok f.g (by omega))) (ev_one (ev_callK2 (ev_v (v := .tup (pl.map wayP)) rfl) (ev_v (v := pW w) rfl) (within_ok f.g (by omega))))) rfl (big_sz (Nat.le_of_ble_eq_true rfl))) (ev_lst (vs := [pW (numW w (atW w pl)), pW (numW w (atW w pl))]) (ev_cons (ev_v (v := pW (numW w (atW w pl))) rfl) (ev_one (ev_v (v := pW (numW w (atW w pl))) rfl))) rfl (big_sz (Nat.le_of_ble_eq_true rfl))) r2 (by omega) (by omega)
    refine evsn_seqE (pe1 := pe1) (evS_if (b := false) (ev_TS n1) (fun e => by cases e) fun _ K h => h) ?_
    exact EvS.n (pe1 := pe1) (evS_if (b := false) (ev_TS n2) (fun e => by cases e) fun _ K h => h) ⟨rfl, c', _, _, _, npa_sh, npa_sh, npa_sh, hc', rfl⟩
def qWork : PS := (qSeq (qIfS (qNot (qT (qArgs (qIsV tab) (qCons (qCaught (qCallV 10 pft_p_node_at_p_within (qCons (qVar 7) (qCons (qVar 8) qNil)))) (qCons (qC (.s (.cl 2))) qNil)))))
    (qRet (qC (.s (.bl false))))
    qNop)
    (qIfS (qNot (qT (qArgs (qIsV tab) (qCons (qCaught (qCallV 10 pft_p_node_at_p_within (qCons (qVar 9) (qCons (qVar 8) qNil)))) (qCons (qC (.s (.cl 1))) qNil)))))
    (qRet (qC (.s (.bl false))))
    qNop))
theorem work_ok {w : Wo} (f : Fine w) {ns : List Int} {c : Nat} {v u : P} (hv : NoW v) (hu : NoP u) {j : Nat} (hj : j < 2) {s2 s3 s4 s5 s6 : Sl} : EvS qWork (envM ns c s2 s3 s4 s5 s6 (.sh v) (.sh u) (.sh (pW w)) (.sh (.fn j))) .nx (envM ns c s2 s3 s4 s5 s6 (.sh v) (.sh u) (.sh (pW w)) (.sh (.fn j))) := by
  obtain ⟨pd1, e1, d1⟩ := both_w (u := u) hv j hj
  obtain ⟨pd2, e2, d2⟩ := both_p f.g hu j hj
  refine evS_seq (evS_if (b := false) (ev_not (b := true) (ev_TS (ev_args (ev_cons (ev_caught (evE_callV (j := j) (os := [.s v, .s u]) (vs := [v, u]) rfl e1 (ev_cons (ev_v rfl) (ev_one (ev_v rfl))) rfl rfl d1)) (ev_one ev_c)) rfl rfl))) (fun e => by cases e) fun _ K h => h) ?_
  exact evS_if (b := false) (ev_not (b := true) (ev_TS (ev_args (ev_cons (ev_caught (evE_callV (j := j) (os := [.s (pW w), .s u]) (vs := [pW w, u]) rfl e2 (ev_cons (ev_v rfl) (ev_one (ev_v rfl))) rfl rfl d2)) (ev_one ev_c)) rfl rfl))) (fun e => by cases e) fun _ K h => h
def qTurn : PS := (qSeq (qSet 9 (qCallL 3 pd_wood (qCons (qVar 1) (qCons (qCallL 2 pd_scope (qCons (qVar 1) (qCons (qC (.s (.int 3))) qNil))) (qCons (qC (.s (.int 6))) qNil)))))
    (qSeq (qFor loopN (qOverR (qCons (qC (.s (.int 4))) qNil)) (tV 3) qLap)
    (qSeq (qPar [7, 8] (qCons (qCallL 1 pd_bad_wood (qCons (qVar 1) qNil)) (qCons (qCallL 1 pd_bad_place (qCons (qVar 1) qNil)) qNil)))
    (qFor loopN (qOverL (qLst (qCons (qC (.s (.fn 0))) (qCons (qC (.s (.fn 1))) qNil)))) (tV 10) qWork))))
theorem turn_ok {ns : List Int} {c : Nat} (hc : 1000 < c) {s2 s3 s4 s5 s6 s7 s8 s9 s10 : Sl} (h3 : NPa s3) (h4 : NPa s4) (h5 : NPa s5) (h6 : NPa s6) (h7 : NPa s7) (h8 : NPa s8) (h9 : NPa s9) (h10 : NPa s10) : EvSN qTurn (envM ns c s2 s3 s4 s5 s6 s7 s8 s9 s10) fun r pe => r = .nx ∧ ∃ c' t3 t4 t5 t6 t7 t8 t9 t10, NPa t3 ∧ NPa t4 ∧ NPa t5 ∧ NPa t6 ∧ NPa t7 ∧ NPa t8 ∧ NPa t9 ∧ NPa t10 ∧ c ≤ c' + 400 ∧ pe = envM ns c' s2 t3 t4 t5 t6 t7 t8 t9 t10 := by
  refine evsn_seq (M := fun pe => ∃ (w : Wo) (c1 : Nat), Fine w ∧ c ≤ c1 + 200 ∧ pe = envM ns c1 s2 s3 s4 s5 s6 s7 s8 (.sh (pW w)) s10) ?_ ?_
  · refine evsn_set (evn_callL (evn_consE (ev_k (v := .drw c) rfl) (evn_cons (F := fun o pe => ∃ (sc : List Str) (c1 : Nat), o = .s (tupS sc) ∧ Sco sc ∧ c ≤ c1 + 181 ∧ pe = envM ns c1 s2 s3 s4 s5 s6 s7 s8 s9 s10) (evn_callL (Ev.n (ev_cons (ev_k (v := .drw c) rfl) (ev_one ev_c)) ⟨1, [.s (.int 3)], [.int 3], _, .drw c, rfl, rfl, rfl, rfl, (scope_ok (by omega)).mono ?_⟩)) ?_)))
    · rintro r sls ⟨sc, c1, rfl, hs, hc1, rfl⟩
      exact ⟨_, _, rfl, sc, c1, rfl, hs, hc1, rfl⟩
    · rintro o pe ⟨sc, c1, rfl, hs, hc1, rfl⟩
      refine evn_one (Ev.n ev_c ⟨1, [.s (tupS sc), .s (.int 6)], [tupS sc, .int 6], _, .drw c1, rfl, rfl, rfl, rfl, (wood_ok (by omega) hs).mono ?_⟩)
      rintro r sls ⟨w, c2, rfl, e, g, l6, hc2, rfl⟩
      subst e
      exact ⟨_, _, rfl, _, asg_s (s := s9) rfl h9, rfl, w, c2, ⟨g, hs, l6⟩, by omega, rfl⟩
  rintro pe ⟨w, c1, f, hc1, rfl⟩
  refine evsn_seq (M := fun pe => ∃ (c2 : Nat) (t3 t4 t5 t6 : Sl), NPa t3 ∧ NPa t4 ∧ NPa t5 ∧ NPa t6 ∧ c1 ≤ c2 + 164 ∧ pe = envM ns c2 s2 t3 t4 t5 t6 s7 s8 (.sh (pW w)) s10) ?_ ?_
  · refine evsn_for (items := (List.range 4).map fun i => .int (i : Nat)) (pe1 := envM ns c1 s2 s3 s4 s5 s6 s7 s8 (.sh (pW w)) s10) (fun xs pe => ∃ (c2 : Nat) (t3 t4 t5 t6 : Sl), NPa t3 ∧ NPa t4 ∧ NPa t5 ∧ NPa t6 ∧ xs.length ≤ 4 ∧ c1 ≤ c2 + 41 * (4 - xs.length) ∧ pe = envM ns c2 s2 t3 t4 t5 t6 s7 s8 (.sh (pW w)) s10) (ev_overA (os := [.s (.int 4)]) (vs := [.int 4]) (ev_one ev_c) rfl (prange_int (i := 4) (by omega) (by omega))) (big_lp (Nat.le_of_ble_eq_true rfl)) ⟨c1, s3, s4, s5, s6, h3, h4, h5, h6, by simp, by simp, rfl⟩ ?_ ?_
    · rintro x xs pe ⟨c2, t3, t4, t5, t6, k3, k4, k5, k6, hl, hc2, rfl⟩
      have hl : xs.length + 1 ≤ 4 := by simpa using hl
      have hc2 : c1 ≤ c2 + 41 * (4 - (xs.length + 1)) := by simpa using hc2
      refine ⟨_, tV_ok (s := t3) rfl k3, ?_⟩
      refine (lap_ok f (by omega) k4 k5 k6).mono ?_
      rintro r pe ⟨rfl, c3, u4, u5, u6, q4, q5, q6, hc3, rfl⟩
      exact ⟨rfl, c3, _, u4, u5, u6, npa_sh, q4, q5, q6, by omega, by omega, rfl⟩
    · rintro pe ⟨c2, t3, t4, t5, t6, k3, k4, k5, k6, hl, hc2, rfl⟩
      exact ⟨rfl, c2, t3, t4, t5, t6, k3, k4, k5, k6, by simpa using hc2, rfl⟩
  rintro pe ⟨c2, t3, t4, t5, t6, k3, k4, k5, k6, hc2, rfl⟩
  refine evsn_seq (M := fun pe => ∃ v u, NoW v ∧ NoP u ∧ pe = envM ns (c2 - 1 - 1) s2 t3 t4 t5 t6 (.sh v) (.sh u) (.sh (pW w)) s10) ?_ ?_
  · refine evsn_par (evn_cons (F := fun o pe => ∃ v, o = .s v ∧ NoW v ∧ pe = envM ns (c2 - 1) s2 t3 t4 t5 t6 s7 s8 (.sh (pW w)) s10) (evn_callL (Ev.n (ev_one (ev_k (v := .drw c2) rfl)) ⟨1, [], [], _, .drw c2, rfl, rfl, rfl, rfl, (bad_wood_ok (by omega)).mono ?_⟩)) ?_)
    · rintro ⟨rb, rv⟩ sls ⟨⟨rfl, hr⟩, rfl⟩
      exact ⟨_, _, rfl, rv, rfl, now_bad rv hr, rfl⟩
    · rintro o pe ⟨v, rfl, hv, rfl⟩
      refine evn_one (evn_callL (Ev.n (ev_one (ev_k (v := .drw (c2 - 1)) rfl)) ⟨1, [], [], _, .drw (c2 - 1), rfl, rfl, rfl, rfl, (bad_place_ok (by omega)).mono ?_⟩))
      rintro ⟨rb, rv⟩ sls ⟨⟨rfl, hr⟩, rfl⟩
      refine ⟨_, _, rfl, [.s v, .s rv], _, envM ns (c2 - 1 - 1) s2 t3 t4 t5 t6 (.sh v) (.sh rv) (.sh (pW w)) s10, rfl, ?_, rfl, v, rv, hv, nop_bad rv hr, rfl⟩
      cases s7 <;> cases s8 <;> first | rfl | exact absurd rfl (h7 _) | exact absurd rfl (h8 _)
  rintro pe ⟨v, u, hv, hu, rfl⟩
  refine evsn_for (items := [.fn 0, .fn 1]) (pe1 := envM ns (c2 - 1 - 1) s2 t3 t4 t5 t6 (.sh v) (.sh u) (.sh (pW w)) s10) (fun xs pe => ∃ t10, NPa t10 ∧ (∀ x ∈ xs, ∃ j, j < 2 ∧ x = .fn j) ∧ pe = envM ns (c2 - 1 - 1) s2 t3 t4 t5 t6 (.sh v) (.sh u) (.sh (pW w)) t10) (ev_over (v := .lst [.fn 0, .fn 1]) (ev_lst (vs := [.fn 0, .fn 1]) (ev_cons ev_c (ev_one ev_c)) rfl (big_sz (Nat.le_of_ble_eq_true rfl))) rfl rfl) (big_lp (Nat.le_of_ble_eq_true rfl)) ⟨s10, h10, ?_, rfl⟩ ?_ ?_
  · intro x hx
    simp only [List.mem_cons, List.not_mem_nil, or_false] at hx
    rcases hx with rfl | rfl
    · exact ⟨0, by omega, rfl⟩
    · exact ⟨1, by omega, rfl⟩
  · rintro x xs pe ⟨t10, k10, hx, rfl⟩
    obtain ⟨j, hj, rfl⟩ := hx x (by simp)
    refine ⟨_, tV_ok (s := t10) rfl k10, EvS.n (work_ok f hv hu hj) ⟨rfl, _, npa_sh, fun y hy => hx y (List.mem_cons_of_mem _ hy), rfl⟩⟩
  · rintro pe ⟨t10, k10, hx, rfl⟩
    exact ⟨rfl, c2 - 1 - 1, t3, t4, t5, t6, _, _, _, t10, k3, k4, k5, k6, npa_sh, npa_sh, npa_sh, k10, by omega, rfl⟩
theorem pints_map : ∀ ns : List Int, pints (ns.map P.int) = some ns
  | [] => rfl
  | x :: r => by
    show (match pints (r.map P.int) with | some is => some (x :: is) | none => none) = _
    rw [pints_map r]
theorem main_ok (ns : List Int) (h : ns.length ≤ 63) : pd_main [.sh (.lcon (ns.map P.int))] fun r _ => r = .ok (false, .bl true) := by
  refine (evdn_of (D := fun r _ => r = (false, .bl true)) ?_ : EvDN pd_main _ _) _ fun r ps e => by rw [e]
  show EvSN q_main (.sh (.lcon (ns.map P.int)) :: List.replicate 10 .no) _
  have hbeg : EvD pd_begun [.sh (.lcon (ns.map P.int))] (.ok (true, .drw most)) [.sh (.lcon (ns.map P.int))] := fun K hK => by
    show (match pints (ns.map P.int) with | some ns' => ns'.length ≤ 63 ∧ K (.ok (true, .drw most)) [.sh (.lcon (ns.map P.int))] | none => False)
    rw [pints_map]
    exact ⟨h, hK⟩
  refine evsn_seqE (pe1 := envM ns most .no .no .no .no .no .no .no .no .no) (evS_set (o := .o (.drw most)) (ev_callT (ev_one (ev_v rfl)) rfl rfl hbeg) rfl) ?_
  refine evsn_seq (M := fun pe => True) ?_ ?_
  · obtain ⟨i, i0, i9, hi⟩ : ∃ i : Int, 0 ≤ i ∧ i ≤ 9 ∧ qMin [.int (ns.map P.int).length, .int 9] = some (false, .int i) := by
      refine ⟨if (9 : Int) < (ns.map P.int).length then 9 else (ns.map P.int).length, ?_, ?_, rfl⟩
      · split <;> omega
      · split <;> omega
    have hsrc : Ev (qOverR (qCons (qB qAdd (qC (.s (.int 3))) (qArgs qMin (qCons (qArgs qLen (qCons (qVar 0) qNil)) (qCons (qC (.s (.int 9))) qNil)))) qNil)) (envM ns most .no .no .no .no .no .no .no .no .no) ((List.range (3 + i).toNat).map fun i => .int (i : Nat)) (envM ns most .no .no .no .no .no .no .no .no .no) := ev_overA (os := [.s (.int (3 + i))]) (vs := [.int (3 + i)]) (ev_one (ev_BS (v1 := .int 3) (v2 := .int i) ev_c (ev_args (ev_cons (ev_args (ev_one (ev_v (v := .lcon (ns.map P.int)) rfl)) rfl rfl) (ev_one ev_c)) rfl hi) rfl)) rfl (prange_int (by omega) (by omega))
    show EvSN (qFor loopN _ (tV 2) qTurn) _ _
    refine evsn_for (fun xs pe => ∃ (c : Nat) (t2 t3 t4 t5 t6 t7 t8 t9 t10 : Sl), NPa t2 ∧ NPa t3 ∧ NPa t4 ∧ NPa t5 ∧ NPa t6 ∧ NPa t7 ∧ NPa t8 ∧ NPa t9 ∧ NPa t10 ∧ 1000 * (xs.length + 1) < c ∧ pe = envM ns c t2 t3 t4 t5 t6 t7 t8 t9 t10) hsrc (by rw [List.length_map, List.length_range]; exact big_lp (by omega)) ⟨most, .no, .no, .no, .no, .no, .no, .no, .no, .no, npa_no, npa_no, npa_no, npa_no, npa_no, npa_no, npa_no, npa_no, npa_no, ?_, rfl⟩ ?_ ?_
    · rw [List.length_map, List.length_range]
      have : most = 549755813888 := rfl
      omega
    · rintro x xs pe ⟨c, t2, t3, t4, t5, t6, t7, t8, t9, t10, k2, k3, k4, k5, k6, k7, k8, k9, k10, hc, rfl⟩
      have hc : 1000 * (xs.length + 1 + 1) < c := by simpa using hc
      refine ⟨_, tV_ok (s := t2) rfl k2, (turn_ok (by omega) k3 k4 k5 k6 k7 k8 k9 k10).mono ?_⟩
      rintro r pe ⟨rfl, c', u3, u4, u5, u6, u7, u8, u9, u10, q3, q4, q5, q6, q7, q8, q9, q10, hc', rfl⟩
      exact ⟨rfl, c', _, u3, u4, u5, u6, u7, u8, u9, u10, npa_sh, q3, q4, q5, q6, q7, q8, q9, q10, by omega, rfl⟩
    · intro pe _
      exact ⟨rfl, trivial⟩
  · intro pe _
    exact evsn_ret (Ev.n ev_c (.inl ⟨_, rfl, false, _, rfl, rfl⟩))
end L_k01

set_option maxHeartbeats 4000000
namespace L_k01
open PySem PySem.Spec PyProof.Rows L2 S3
def top (i : Nat) : Stmt := PySem.Challenge.pw_allboughs_k01_what_stands_at_places.main.body.getD i (.Pass ⟨0, 0, 0, 0⟩)
abbrev s_p_is_name : Stmt := top 7
abbrev s_p_are_names : Stmt := top 12
abbrev s_p_is_scope : Stmt := top 13
abbrev s_p_is_number : Stmt := top 11
abbrev s_p_is_node : Stmt := top 14
abbrev s_p_is_wood : Stmt := top 15
abbrev s_p_need_wood : Stmt := top 17
abbrev s_p_is_place : Stmt := top 16
abbrev s_p_need_place : Stmt := top 18
abbrev s_p_node_told : Stmt := top 19
abbrev s_p_node_at : Stmt := top 20
abbrev s_p_numbered : Stmt := top 21
abbrev s_p_within : Stmt := top 22
abbrev s_begun : Stmt := top 24
abbrev s_mixed : Stmt := top 25
abbrev s_take : Stmt := top 26
abbrev s_pick : Stmt := top 27
abbrev s_shuffled : Stmt := top 28
abbrev s_names : Stmt := top 30
abbrev s_scope : Stmt := top 31
abbrev s_letters : Stmt := top 32
abbrev s_wood : Stmt := top 33
abbrev s_at : Stmt := top 34
abbrev s_numbered : Stmt := top 35
abbrev s_place : Stmt := top 36
abbrev s_bad_wood : Stmt := top 37
abbrev s_bad_place : Stmt := top 38
abbrev s_main : Stmt := top 39
abbrev s_caught : Stmt := top 29
/-- what the top leaves -/
structure Fx (g : Gs) : Prop where
  b_abs : g.mg "abs" = none
  b_all : g.mg "all" = none
  b_bool : g.mg "bool" = none
  b_int : g.mg "int" = none
  b_isinstance : g.mg "isinstance" = none
  b_len : g.mg "len" = none
  b_list : g.mg "list" = none
  b_min : g.mg "min" = none
  b_range : g.mg "range" = none
  b_repr : g.mg "repr" = none
  b_sorted : g.mg "sorted" = none
  b_str : g.mg "str" = none
  b_tuple : g.mg "tuple" = none
  b_zip : g.mg "zip" = none
  c_KEPT : ∃ a, g.mg "KEPT" = some (.ref a) ∧ ∀ ms H, Rl g ms H (.tcon k_KEPT) (.ref a)
  c_MOST_NAMES : ∃ t, g.mg "MOST_NAMES" = some (.int 3 t)
  c_MOST_NODES : ∃ t, g.mg "MOST_NODES" = some (.int 400 t)
  c_SMALL : ∃ t, g.mg "SMALL" = some (.str "abcdefghijklmnopqrstuvwxyz" t)
  f_node_at : g.mg "node_at" = some (.ref (g.fa 0))
  f_within : g.mg "within" = some (.ref (g.fa 1))
  k_BoughError : g.mg "BoughError" = some (.ref (g.cl 0))
  k_BadPlace : g.mg "BadPlace" = some (.ref (g.cl 1))
  k_BadWood : g.mg "BadWood" = some (.ref (g.cl 2))
  x_BoughError : ExcOk g He.veBase "ValueError.__new__" "BoughError" 0
  x_BadPlace : ExcOk g He.veBase "ValueError.__new__" "BadPlace" 1
  x_BadWood : ExcOk g He.veBase "ValueError.__new__" "BadWood" 2
  tab : TabOk g tab
  catcher : CatchOk g "_law_caught" "_law_work" (g.cl 0)
abbrev N_p_is_name : List Str := ["thing", "letter"]
abbrev ps_p_is_name : List Str := ["thing"]
theorem sc_p_is_name : FnScope N_p_is_name ps_p_is_name (defScope s_p_is_name) := C8.fnScope_by (by decide +kernel)
theorem b_p_is_name : BindsBy "is_name" s_p_is_name 1 ps_p_is_name := fun _ _ _ _ _ _ us hl => match us, hl with | [_], _ => rfl
abbrev N_p_are_names : List Str := ["thing", "one", "other", "name"]
abbrev ps_p_are_names : List Str := ["thing"]
theorem sc_p_are_names : FnScope N_p_are_names ps_p_are_names (defScope s_p_are_names) := C8.fnScope_by (by decide +kernel)
theorem b_p_are_names : BindsBy "are_names" s_p_are_names 1 ps_p_are_names := fun _ _ _ _ _ _ us hl => match us, hl with | [_], _ => rfl
abbrev N_p_is_scope : List Str := ["thing"]
abbrev ps_p_is_scope : List Str := ["thing"]
theorem sc_p_is_scope : FnScope N_p_is_scope ps_p_is_scope (defScope s_p_is_scope) := C8.fnScope_by (by decide +kernel)
theorem b_p_is_scope : BindsBy "is_scope" s_p_is_scope 1 ps_p_is_scope := fun _ _ _ _ _ _ us hl => match us, hl with | [_], _ => rfl
abbrev N_p_is_number : List Str := ["thing", "end"]
abbrev ps_p_is_number : List Str := ["thing", "end"]
theorem sc_p_is_number : FnScope N_p_is_number ps_p_is_number (defScope s_p_is_number) := C8.fnScope_by (by decide +kernel)
theorem b_p_is_number : BindsBy "is_number" s_p_is_number 2 ps_p_is_number := fun _ _ _ _ _ _ us hl => match us, hl with | [_, _], _ => rfl
abbrev N_p_is_node : List Str := ["thing", "scope", "many", "name"]
abbrev ps_p_is_node : List Str := ["thing", "scope", "many"]
theorem sc_p_is_node : FnScope N_p_is_node ps_p_is_node (defScope s_p_is_node) := C8.fnScope_by (by decide +kernel)
theorem b_p_is_node : BindsBy "is_node" s_p_is_node 3 ps_p_is_node := fun _ _ _ _ _ _ us hl => match us, hl with | [_, _, _], _ => rfl
abbrev N_p_is_wood : List Str := ["thing", "node"]
abbrev ps_p_is_wood : List Str := ["thing"]
theorem sc_p_is_wood : FnScope N_p_is_wood ps_p_is_wood (defScope s_p_is_wood) := C8.fnScope_by (by decide +kernel)
theorem b_p_is_wood : BindsBy "is_wood" s_p_is_wood 1 ps_p_is_wood := fun _ _ _ _ _ _ us hl => match us, hl with | [_], _ => rfl
abbrev N_p_need_wood : List Str := ["wood"]
abbrev ps_p_need_wood : List Str := ["wood"]
theorem sc_p_need_wood : FnScope N_p_need_wood ps_p_need_wood (defScope s_p_need_wood) := C8.fnScope_by (by decide +kernel)
theorem b_p_need_wood : BindsBy "need_wood" s_p_need_wood 1 ps_p_need_wood := fun _ _ _ _ _ _ us hl => match us, hl with | [_], _ => rfl
abbrev N_p_is_place : List Str := ["thing", "way"]
abbrev ps_p_is_place : List Str := ["thing"]
theorem sc_p_is_place : FnScope N_p_is_place ps_p_is_place (defScope s_p_is_place) := C8.fnScope_by (by decide +kernel)
theorem b_p_is_place : BindsBy "is_place" s_p_is_place 1 ps_p_is_place := fun _ _ _ _ _ _ us hl => match us, hl with | [_], _ => rfl
abbrev N_p_need_place : List Str := ["place"]
abbrev ps_p_need_place : List Str := ["place"]
theorem sc_p_need_place : FnScope N_p_need_place ps_p_need_place (defScope s_p_need_place) := C8.fnScope_by (by decide +kernel)
theorem b_p_need_place : BindsBy "need_place" s_p_need_place 1 ps_p_need_place := fun _ _ _ _ _ _ us hl => match us, hl with | [_], _ => rfl
abbrev N_p_node_told : List Str := ["wood", "place", "node", "way"]
abbrev ps_p_node_told : List Str := ["wood", "place"]
theorem sc_p_node_told : FnScope N_p_node_told ps_p_node_told (defScope s_p_node_told) := C8.fnScope_by (by decide +kernel)
theorem b_p_node_told : BindsBy "node_told" s_p_node_told 2 ps_p_node_told := fun _ _ _ _ _ _ us hl => match us, hl with | [_, _], _ => rfl
abbrev N_p_node_at : List Str := ["wood", "place"]
abbrev ps_p_node_at : List Str := ["wood", "place"]
theorem sc_p_node_at : FnScope N_p_node_at ps_p_node_at (defScope s_p_node_at) := C8.fnScope_by (by decide +kernel)
theorem b_p_node_at : BindsBy "node_at" s_p_node_at 2 ps_p_node_at := fun _ _ _ _ _ _ us hl => match us, hl with | [_, _], _ => rfl
abbrev N_p_numbered : List Str := ["scope", "first", "row_of", "line", "numbers", "rows", "letter", "left", "right", "key"]
abbrev ps_p_numbered : List Str := ["scope", "first", "row_of"]
theorem sc_p_numbered : FnScope N_p_numbered ps_p_numbered (defScope s_p_numbered) := C8.fnScope_by (by decide +kernel)
theorem b_p_numbered : BindsBy "numbered" s_p_numbered 3 ps_p_numbered := fun _ _ _ _ _ _ us hl => match us, hl with | [_, _, _], _ => rfl
abbrev N_p_within : List Str := ["wood", "place"]
abbrev ps_p_within : List Str := ["wood", "place"]
theorem sc_p_within : FnScope N_p_within ps_p_within (defScope s_p_within) := C8.fnScope_by (by decide +kernel)
theorem b_p_within : BindsBy "within" s_p_within 2 ps_p_within := fun _ _ _ _ _ _ us hl => match us, hl with | [_, _], _ => rfl
abbrev N_begun : List Str := ["_law_script", "_law_wide", "_law_grain"]
abbrev ps_begun : List Str := ["_law_script"]
theorem sc_begun : FnScope N_begun ps_begun (defScope s_begun) := C8.fnScope_by (by decide +kernel)
theorem b_begun : BindsBy "_law_begun" s_begun 1 ps_begun := fun _ _ _ _ _ _ us hl => match us, hl with | [_], _ => rfl
abbrev N_mixed : List Str := ["_law_draw", "_law_turn", "_law_found", "_law_prime", "_law_blend", "_law_grain"]
abbrev ps_mixed : List Str := ["_law_draw"]
theorem sc_mixed : FnScope N_mixed ps_mixed (defScope s_mixed) := C8.fnScope_by (by decide +kernel)
theorem b_mixed : BindsBy "_law_mixed" s_mixed 1 ps_mixed := fun _ _ _ _ _ _ us hl => match us, hl with | [_], _ => rfl
abbrev N_take : List Str := ["_law_draw", "_law_many", "_law_found"]
abbrev ps_take : List Str := ["_law_draw", "_law_many"]
theorem sc_take : FnScope N_take ps_take (defScope s_take) := C8.fnScope_by (by decide +kernel)
theorem b_take : BindsBy "_law_take" s_take 2 ps_take := fun _ _ _ _ _ _ us hl => match us, hl with | [_, _], _ => rfl
abbrev N_pick : List Str := ["_law_draw", "_law_some"]
abbrev ps_pick : List Str := ["_law_draw", "_law_some"]
theorem sc_pick : FnScope N_pick ps_pick (defScope s_pick) := C8.fnScope_by (by decide +kernel)
theorem b_pick : BindsBy "_law_pick" s_pick 2 ps_pick := fun _ _ _ _ _ _ us hl => match us, hl with | [_, _], _ => rfl
abbrev N_shuffled : List Str := ["_law_draw", "_law_some", "_law_left", "_law_found"]
abbrev ps_shuffled : List Str := ["_law_draw", "_law_some"]
theorem sc_shuffled : FnScope N_shuffled ps_shuffled (defScope s_shuffled) := C8.fnScope_by (by decide +kernel)
theorem b_shuffled : BindsBy "_law_shuffled" s_shuffled 2 ps_shuffled := fun _ _ _ _ _ _ us hl => match us, hl with | [_, _], _ => rfl
abbrev N_names : List Str := ["_law_draw", "_law_many", "_law_some", "_law_one", "_law_stem", "_law_other"]
abbrev ps_names : List Str := ["_law_draw", "_law_many"]
theorem sc_names : FnScope N_names ps_names (defScope s_names) := C8.fnScope_by (by decide +kernel)
theorem b_names : BindsBy "_law_names" s_names 2 ps_names := fun _ _ _ _ _ _ us hl => match us, hl with | [_, _], _ => rfl
abbrev N_scope : List Str := ["_law_draw", "_law_most"]
abbrev ps_scope : List Str := ["_law_draw", "_law_most"]
theorem sc_scope : FnScope N_scope ps_scope (defScope s_scope) := C8.fnScope_by (by decide +kernel)
theorem b_scope : BindsBy "_law_scope" s_scope 2 ps_scope := fun _ _ _ _ _ _ us hl => match us, hl with | [_, _], _ => rfl
abbrev N_letters : List Str := ["_law_scope_here", "_law_found", "_law_name", "_law_letter"]
abbrev ps_letters : List Str := ["_law_scope_here"]
theorem sc_letters : FnScope N_letters ps_letters (defScope s_letters) := C8.fnScope_by (by decide +kernel)
theorem b_letters : BindsBy "_law_letters" s_letters 1 ps_letters := fun _ _ _ _ _ _ us hl => match us, hl with | [_], _ => rfl
abbrev N_wood : List Str := ["_law_draw", "_law_scope_here", "_law_most", "_law_many", "_law_marks", "_law_rows", "_law_k"]
abbrev ps_wood : List Str := ["_law_draw", "_law_scope_here", "_law_most"]
theorem sc_wood : FnScope N_wood ps_wood (defScope s_wood) := C8.fnScope_by (by decide +kernel)
theorem b_wood : BindsBy "_law_wood" s_wood 3 ps_wood := fun _ _ _ _ _ _ us hl => match us, hl with | [_, _, _], _ => rfl
abbrev N_at : List Str := ["_law_wood_here", "_law_place_here", "_law_node", "_law_way"]
abbrev ps_at : List Str := ["_law_wood_here", "_law_place_here"]
theorem sc_at : FnScope N_at ps_at (defScope s_at) := C8.fnScope_by (by decide +kernel)
theorem b_at : BindsBy "_law_at" s_at 2 ps_at := fun _ _ _ _ _ _ us hl => match us, hl with | [_, _], _ => rfl
abbrev N_numbered : List Str := ["_law_scope_here", "_law_first", "_law_rows", "_law_line", "_law_numbers", "_law_done", "_law_letter", "_law_left", "_law_right", "_law_key"]
abbrev ps_numbered : List Str := ["_law_scope_here", "_law_first", "_law_rows"]
theorem sc_numbered : FnScope N_numbered ps_numbered (defScope s_numbered) := C8.fnScope_by (by decide +kernel)
theorem b_numbered : BindsBy "_law_numbered" s_numbered 3 ps_numbered := fun _ _ _ _ _ _ us hl => match us, hl with | [_, _, _], _ => rfl
abbrev N_place : List Str := ["_law_draw", "_law_most", "_law_k"]
abbrev ps_place : List Str := ["_law_draw", "_law_most"]
theorem sc_place : FnScope N_place ps_place (defScope s_place) := C8.fnScope_by (by decide +kernel)
theorem b_place : BindsBy "_law_place" s_place 2 ps_place := fun _ _ _ _ _ _ us hl => match us, hl with | [_, _], _ => rfl
abbrev N_bad_wood : List Str := ["_law_draw", "_law_one", "_law_some"]
abbrev ps_bad_wood : List Str := ["_law_draw"]
theorem sc_bad_wood : FnScope N_bad_wood ps_bad_wood (defScope s_bad_wood) := C8.fnScope_by (by decide +kernel)
theorem b_bad_wood : BindsBy "_law_bad_wood" s_bad_wood 1 ps_bad_wood := fun _ _ _ _ _ _ us hl => match us, hl with | [_], _ => rfl
abbrev N_bad_place : List Str := ["_law_draw"]
abbrev ps_bad_place : List Str := ["_law_draw"]
theorem sc_bad_place : FnScope N_bad_place ps_bad_place (defScope s_bad_place) := C8.fnScope_by (by decide +kernel)
theorem b_bad_place : BindsBy "_law_bad_place" s_bad_place 1 ps_bad_place := fun _ _ _ _ _ _ us hl => match us, hl with | [_], _ => rfl
abbrev N_main : List Str := ["_law_script", "_law_draw", "_law_turn", "_law_lap", "_law_place_here", "_law_node", "_law_due", "_law_bad", "_law_off", "_law_wood_here", "_law_work"]
abbrev ps_main : List Str := ["_law_script"]
theorem sc_main : FnScope N_main ps_main (defScope s_main) := C8.fnScope_by (by decide +kernel)
theorem b_main : BindsBy "law" s_main 1 ps_main := fun _ _ _ _ _ _ us hl => match us, hl with | [_], _ => rfl
theorem ft_p_node_at_p_within_ok {g : Gs} (F : Fx g) (dp_node_at : DefOk g 6 "node_at" s_p_node_at ps_p_node_at d_p_node_at) (dp_within : DefOk g 6 "within" s_p_within ps_p_within d_p_within) : FTabOk g 6 ft_p_node_at_p_within := fun i n fd h => by
  unfold ft_p_node_at_p_within at h
  split at h
  · cases h
    exact fnV_of (dp_node_at.mono lev) F.f_node_at b_p_node_at
  · cases h
    exact fnV_of (dp_within.mono lev) F.f_within b_p_within
  · cases h
theorem sim_p_is_name {g : Gs} [NoLam g] (F : Fx g)  (E : XK) : SimSs (defC g N_p_is_name s_p_is_name 0 E) (defBody s_p_is_name) f_p_is_name :=
  (simSs_cons (simS_if (SimW.t (simW_or (simT_not (simT_val (simE_isi (by kernel_rfl) F.b_isinstance (simA_cons (simE_var 0 rfl (by kernel_rfl)) (simA_cons (simE_ty (by kernel_rfl) F.b_str (by kernel_rfl)) simA_nil))))) (simW_or (simT_not (simT_leLe simE_int (simE_len (by kernel_rfl) F.b_len (simA_cons (simE_var 0 rfl (by kernel_rfl)) simA_nil)) simE_int)) (simW_or1 (simT_in (simE_var 0 rfl (by kernel_rfl)) (simE_tcon (by kernel_rfl) F.c_KEPT))))))
    (simSs_one (simS_ret simE_bl))
    simSs_nil)
    (simSs_one (simS_ret (simE_all (by kernel_rfl) F.b_all (simA_cons (simE_lc [("letter", 1)] loopN (simI_str (simE_var 0 rfl (by kernel_rfl))) (by kernel_rfl) (simG_name 1 rfl (by kernel_rfl)) simTs_nil (simE_inS (simE_var 1 rfl (by kernel_rfl)) (simE_cstr (by kernel_rfl) F.c_SMALL)) (by decide)) simA_nil)))))
theorem sim_p_are_names {g : Gs} [NoLam g] (F : Fx g) (dp_is_name : DefOk g 1 "is_name" s_p_is_name ps_p_is_name d_p_is_name) (E : XK) : SimSs (defC g N_p_are_names s_p_are_names 1 E) (defBody s_p_are_names) f_p_are_names :=
  (simSs_cons (simS_if (SimW.t (simW_or (simT_not (simT_val (simE_isi (by kernel_rfl) F.b_isinstance (simA_cons (simE_var 0 rfl (by kernel_rfl)) (simA_cons (simE_ty (by kernel_rfl) F.b_tuple (by kernel_rfl)) simA_nil))))) (simW_or1 (simT_not (simT_val (simE_all (by kernel_rfl) F.b_all (simA_cons (simE_lc [("name", 3)] loopN (simI_tup (simE_var 0 rfl (by kernel_rfl))) (by kernel_rfl) (simG_name 3 rfl (by kernel_rfl)) simTs_nil (simE_call dp_is_name lev (by kernel_rfl) b_p_is_name (simA_cons (simE_var 3 rfl (by kernel_rfl)) simA_nil)) (by decide)) simA_nil)))))))
    (simSs_one (simS_ret simE_bl))
    simSs_nil)
    (simSs_one (simS_ret (simE_all (by kernel_rfl) F.b_all (simA_cons (simE_lc [("one", 1), ("other", 2)] loopN (simI_zipT (by kernel_rfl) F.b_zip (simA_cons (simE_var 0 rfl (by kernel_rfl)) (simA_cons (simE_slice (simE_var 0 rfl (by kernel_rfl)) (simO_some simE_int) simO_none) simA_nil))) (by kernel_rfl) (simG_tup 2 (simGs_cons (simG_name 1 rfl (by kernel_rfl)) (simGs_cons (simG_name 2 rfl (by kernel_rfl)) simGs_nil))) simTs_nil (simE_lt (simE_var 1 rfl (by kernel_rfl)) (simE_var 2 rfl (by kernel_rfl))) (by decide)) simA_nil)))))
theorem sim_p_is_scope {g : Gs} [NoLam g] (F : Fx g) (dp_are_names : DefOk g 2 "are_names" s_p_are_names ps_p_are_names d_p_are_names) (E : XK) : SimSs (defC g N_p_is_scope s_p_is_scope 2 E) (defBody s_p_is_scope) f_p_is_scope :=
  (simSs_one (simS_ret (simE_and (simE_call dp_are_names lev (by kernel_rfl) b_p_are_names (simA_cons (simE_var 0 rfl (by kernel_rfl)) simA_nil)) (simE_one (simE_le (simE_len (by kernel_rfl) F.b_len (simA_cons (simE_var 0 rfl (by kernel_rfl)) simA_nil)) (simE_glob (v := .int 3) (by kernel_rfl) F.c_MOST_NAMES.choose_spec ⟨_, rfl⟩ fun _ _ => .int _))))))
theorem sim_p_is_number {g : Gs} [NoLam g] (F : Fx g)  (E : XK) : SimSs (defC g N_p_is_number s_p_is_number 0 E) (defBody s_p_is_number) f_p_is_number :=
  (simSs_one (simS_ret (simE_and (simE_isi (by kernel_rfl) F.b_isinstance (simA_cons (simE_var 0 rfl (by kernel_rfl)) (simA_cons (simE_ty (by kernel_rfl) F.b_int (by kernel_rfl)) simA_nil))) (simE_and (simE_not (simE_isi (by kernel_rfl) F.b_isinstance (simA_cons (simE_var 0 rfl (by kernel_rfl)) (simA_cons (simE_ty (by kernel_rfl) F.b_bool (by kernel_rfl)) simA_nil)))) (simE_one (simE_leLt simE_int (simE_var 0 rfl (by kernel_rfl)) (simE_var 1 rfl (by kernel_rfl))))))))
theorem sim_p_is_node {g : Gs} [NoLam g] (F : Fx g) (dp_are_names : DefOk g 2 "are_names" s_p_are_names ps_p_are_names d_p_are_names) (dp_is_number : DefOk g 1 "is_number" s_p_is_number ps_p_is_number d_p_is_number) (E : XK) : SimSs (defC g N_p_is_node s_p_is_node 2 E) (defBody s_p_is_node) f_p_is_node :=
  (simSs_cons (simS_if (SimW.t (simW_or (simT_not (simT_val (simE_isi (by kernel_rfl) F.b_isinstance (simA_cons (simE_var 0 rfl (by kernel_rfl)) (simA_cons (simE_ty (by kernel_rfl) F.b_tuple (by kernel_rfl)) simA_nil))))) (simW_or (simT_ne (simE_len (by kernel_rfl) F.b_len (simA_cons (simE_var 0 rfl (by kernel_rfl)) simA_nil)) simE_int) (simW_or1 (simT_not (simT_val (simE_call dp_are_names lev (by kernel_rfl) b_p_are_names (simA_cons (simE_ix (simE_var 0 rfl (by kernel_rfl)) simE_int) simA_nil))))))))
    (simSs_one (simS_ret simE_bl))
    simSs_nil)
    (simSs_one (simS_ret (simE_and (simE_all (by kernel_rfl) F.b_all (simA_cons (simE_lc [("name", 3)] loopN (simI_tup (simE_ix (simE_var 0 rfl (by kernel_rfl)) simE_int)) (by kernel_rfl) (simG_name 3 rfl (by kernel_rfl)) simTs_nil (simE_in (simE_var 3 rfl (by kernel_rfl)) (simE_var 1 rfl (by kernel_rfl))) (by decide)) simA_nil)) (simE_and (simE_call dp_is_number lev (by kernel_rfl) b_p_is_number (simA_cons (simE_ix (simE_var 0 rfl (by kernel_rfl)) simE_int) (simA_cons (simE_var 2 rfl (by kernel_rfl)) simA_nil))) (simE_one (simE_call dp_is_number lev (by kernel_rfl) b_p_is_number (simA_cons (simE_ix (simE_var 0 rfl (by kernel_rfl)) simE_int) (simA_cons (simE_var 2 rfl (by kernel_rfl)) simA_nil)))))))))
theorem sim_p_is_wood {g : Gs} [NoLam g] (F : Fx g) (dp_is_scope : DefOk g 3 "is_scope" s_p_is_scope ps_p_is_scope d_p_is_scope) (dp_is_node : DefOk g 3 "is_node" s_p_is_node ps_p_is_node d_p_is_node) (E : XK) : SimSs (defC g N_p_is_wood s_p_is_wood 3 E) (defBody s_p_is_wood) f_p_is_wood :=
  (simSs_cons (simS_if (SimW.t (simW_or (simT_not (simT_val (simE_isi (by kernel_rfl) F.b_isinstance (simA_cons (simE_var 0 rfl (by kernel_rfl)) (simA_cons (simE_ty (by kernel_rfl) F.b_tuple (by kernel_rfl)) simA_nil))))) (simW_or (simT_ne (simE_len (by kernel_rfl) F.b_len (simA_cons (simE_var 0 rfl (by kernel_rfl)) simA_nil)) simE_int) (simW_or (simT_not (simT_val (simE_isi (by kernel_rfl) F.b_isinstance (simA_cons (simE_ix (simE_var 0 rfl (by kernel_rfl)) simE_int) (simA_cons (simE_ty (by kernel_rfl) F.b_str (by kernel_rfl)) simA_nil))))) (simW_or1 (simT_ne (simE_ix (simE_var 0 rfl (by kernel_rfl)) simE_int) simE_str))))))
    (simSs_one (simS_ret simE_bl))
    simSs_nil)
    (simSs_cons (simS_if (SimW.t (simW_or (simT_not (simT_val (simE_call dp_is_scope lev (by kernel_rfl) b_p_is_scope (simA_cons (simE_ix (simE_var 0 rfl (by kernel_rfl)) simE_int) simA_nil)))) (simW_or (simT_not (simT_val (simE_isi (by kernel_rfl) F.b_isinstance (simA_cons (simE_ix (simE_var 0 rfl (by kernel_rfl)) simE_int) (simA_cons (simE_ty (by kernel_rfl) F.b_tuple (by kernel_rfl)) simA_nil))))) (simW_or1 (simT_not (simT_leLe simE_int (simE_len (by kernel_rfl) F.b_len (simA_cons (simE_ix (simE_var 0 rfl (by kernel_rfl)) simE_int) simA_nil)) (simE_glob (v := .int 400) (by kernel_rfl) F.c_MOST_NODES.choose_spec ⟨_, rfl⟩ fun _ _ => .int _)))))))
    (simSs_one (simS_ret simE_bl))
    simSs_nil)
    (simSs_one (simS_ret (simE_all (by kernel_rfl) F.b_all (simA_cons (simE_lc [("node", 1)] loopN (simI_tup (simE_ix (simE_var 0 rfl (by kernel_rfl)) simE_int)) (by kernel_rfl) (simG_name 1 rfl (by kernel_rfl)) simTs_nil (simE_call dp_is_node lev (by kernel_rfl) b_p_is_node (simA_cons (simE_var 1 rfl (by kernel_rfl)) (simA_cons (simE_ix (simE_var 0 rfl (by kernel_rfl)) simE_int) (simA_cons (simE_len (by kernel_rfl) F.b_len (simA_cons (simE_ix (simE_var 0 rfl (by kernel_rfl)) simE_int) simA_nil)) simA_nil)))) (by decide)) simA_nil))))))
theorem sim_p_need_wood {g : Gs} [NoLam g] (F : Fx g) (dp_is_wood : DefOk g 4 "is_wood" s_p_is_wood ps_p_is_wood d_p_is_wood) (E : XK) : SimSs (defC g N_p_need_wood s_p_need_wood 4 E) (defBody s_p_need_wood) f_p_need_wood :=
  (simSs_one (simS_if (simT_not (simT_val (simE_call dp_is_wood lev (by kernel_rfl) b_p_is_wood (simA_cons (simE_var 0 rfl (by kernel_rfl)) simA_nil))))
    (simSs_one (simS_raise PySem.F.excBase_ValueError (F.x_BadWood) (by kernel_rfl)))
    simSs_nil))
theorem sim_p_is_place {g : Gs} [NoLam g] (F : Fx g) (dp_is_number : DefOk g 1 "is_number" s_p_is_number ps_p_is_number d_p_is_number) (E : XK) : SimSs (defC g N_p_is_place s_p_is_place 1 E) (defBody s_p_is_place) f_p_is_place :=
  (simSs_one (simS_ret (simE_and (simE_isi (by kernel_rfl) F.b_isinstance (simA_cons (simE_var 0 rfl (by kernel_rfl)) (simA_cons (simE_ty (by kernel_rfl) F.b_tuple (by kernel_rfl)) simA_nil))) (simE_one (simE_all (by kernel_rfl) F.b_all (simA_cons (simE_lc [("way", 1)] loopN (simI_tup (simE_var 0 rfl (by kernel_rfl))) (by kernel_rfl) (simG_name 1 rfl (by kernel_rfl)) simTs_nil (simE_call dp_is_number lev (by kernel_rfl) b_p_is_number (simA_cons (simE_var 1 rfl (by kernel_rfl)) (simA_cons simE_int simA_nil))) (by decide)) simA_nil))))))
theorem sim_p_need_place {g : Gs} [NoLam g] (F : Fx g) (dp_is_place : DefOk g 2 "is_place" s_p_is_place ps_p_is_place d_p_is_place) (E : XK) : SimSs (defC g N_p_need_place s_p_need_place 2 E) (defBody s_p_need_place) f_p_need_place :=
  (simSs_one (simS_if (simT_not (simT_val (simE_call dp_is_place lev (by kernel_rfl) b_p_is_place (simA_cons (simE_var 0 rfl (by kernel_rfl)) simA_nil))))
    (simSs_one (simS_raise PySem.F.excBase_ValueError (F.x_BadPlace) (by kernel_rfl)))
    simSs_nil))
theorem sim_p_node_told {g : Gs} [NoLam g] (F : Fx g)  (E : XK) : SimSs (defC g N_p_node_told s_p_node_told 0 E) (defBody s_p_node_told) f_p_node_told :=
  (simSs_cons (simS_asg simE_int (simG_name 2 rfl (by kernel_rfl)) (by intro env hsc; obtain ⟨⟩ := env; cases hsc; rfl) (by intro env hsc; obtain ⟨⟩ := env; cases hsc; rfl))
    (simSs_cons (simS_for loopN (simI_tup (simE_var 1 rfl (by kernel_rfl))) (simG_name 3 rfl (by kernel_rfl))
    (simSs_one (simS_asg (simE_ix (simE_ix (simE_ix (simE_var 0 rfl (by kernel_rfl)) simE_int) (simE_var 2 rfl (by kernel_rfl))) (simE_add simE_int (simE_var 3 rfl (by kernel_rfl)))) (simG_name 2 rfl (by kernel_rfl)) (by intro env hsc; obtain ⟨⟩ := env; cases hsc; rfl) (by intro env hsc; obtain ⟨⟩ := env; cases hsc; rfl))))
    (simSs_one (simS_ret (simE_var 2 rfl (by kernel_rfl))))))
theorem sim_p_node_at {g : Gs} [NoLam g] (F : Fx g) (dp_need_wood : DefOk g 5 "need_wood" s_p_need_wood ps_p_need_wood d_p_need_wood) (dp_need_place : DefOk g 3 "need_place" s_p_need_place ps_p_need_place d_p_need_place) (dp_node_told : DefOk g 1 "node_told" s_p_node_told ps_p_node_told d_p_node_told) (E : XK) : SimSs (defC g N_p_node_at s_p_node_at 5 E) (defBody s_p_node_at) f_p_node_at :=
  (simSs_cons (simS_expr (simE_call dp_need_wood lev (by kernel_rfl) b_p_need_wood (simA_cons (simE_var 0 rfl (by kernel_rfl)) simA_nil)))
    (simSs_cons (simS_expr (simE_call dp_need_place lev (by kernel_rfl) b_p_need_place (simA_cons (simE_var 1 rfl (by kernel_rfl)) simA_nil)))
    (simSs_one (simS_ret (simE_call dp_node_told lev (by kernel_rfl) b_p_node_told (simA_cons (simE_var 0 rfl (by kernel_rfl)) (simA_cons (simE_var 1 rfl (by kernel_rfl)) simA_nil)))))))
theorem sim_p_numbered {g : Gs} [NoLam g] (F : Fx g)  (fdl : FD) (l : Lm) (E : XK) (hi : l.i = 2) : SimSs (defCL g l fdl 1 N_p_numbered s_p_numbered 1 E) (defBody s_p_numbered) (f_p_numbered (capF fdl l.cs)) :=
  haveI : NL { g with lam := some l } 3 := nl_of hi (by decide)
  haveI : NL { g with lam := some l } 4 := nl_of hi (by decide)
  haveI : NL { g with lam := some l } 5 := nl_of hi (by decide)
  haveI : NL { g with lam := some l } 6 := nl_of hi (by decide)
  haveI : NL { g with lam := some l } 7 := nl_of hi (by decide)
  haveI : NL { g with lam := some l } 8 := nl_of hi (by decide)
  haveI : NL { g with lam := some l } 9 := nl_of hi (by decide)
  (simSs_cons (simS_asg (simE_lst (simA_cons (simE_var 1 rfl (by kernel_rfl)) simA_nil)) (simG_name 3 rfl (by kernel_rfl)) (by intro env hsc; obtain ⟨⟩ := env; cases hsc; rfl) (by intro env hsc; obtain ⟨⟩ := env; cases hsc; rfl))
    (simSs_cons (simS_asg (simE_disp (simP_cons (simE_var 1 rfl (by kernel_rfl)) simE_int simP_nil)) (simG_name 4 rfl (by kernel_rfl)) (by intro env hsc; obtain ⟨⟩ := env; cases hsc; rfl) (by intro env hsc; obtain ⟨⟩ := env; cases hsc; rfl))
    (simSs_cons (simS_asg (simE_lst simA_nil) (simG_name 5 rfl (by kernel_rfl)) (by intro env hsc; obtain ⟨⟩ := env; cases hsc; rfl) (by intro env hsc; obtain ⟨⟩ := env; cases hsc; rfl))
    (simSs_cons (simS_while loopN (simT_lt (simE_len (by kernel_rfl) F.b_len (simA_cons (simE_var 5 rfl (by kernel_rfl)) simA_nil)) (simE_len (by kernel_rfl) F.b_len (simA_cons (simE_var 3 rfl (by kernel_rfl)) simA_nil)))
    (simSs_cons (simS_asg (simE_callR rfl rfl 2 hi rfl (by kernel_rfl) (simA_cons (simE_ix (simE_var 3 rfl (by kernel_rfl)) (simE_len (by kernel_rfl) F.b_len (simA_cons (simE_var 5 rfl (by kernel_rfl)) simA_nil))) simA_nil)) (simG_tup 3 (simGs_cons (simG_name 6 rfl (by kernel_rfl)) (simGs_cons (simG_name 7 rfl (by kernel_rfl)) (simGs_cons (simG_name 8 rfl (by kernel_rfl)) simGs_nil)))) (by intro env hsc; obtain ⟨⟩ := env; cases hsc; rfl) (by intro env hsc; obtain ⟨⟩ := env; cases hsc; rfl))
    (simSs_cons (simS_for loopN (simI_tup (simE_tup (simA_cons (simE_var 7 rfl (by kernel_rfl)) (simA_cons (simE_var 8 rfl (by kernel_rfl)) simA_nil)))) (simG_name 9 rfl (by kernel_rfl))
    (simSs_one (simS_if (simT_dnin (simE_var 9 rfl (by kernel_rfl)) (simE_var 4 rfl (by kernel_rfl)))
    (simSs_cons (simS_asg (simE_len (by kernel_rfl) F.b_len (simA_cons (simE_var 3 rfl (by kernel_rfl)) simA_nil)) (simG_sub (simE_var 4 rfl (by kernel_rfl)) (simE_var 9 rfl (by kernel_rfl))) (by intro env hsc; obtain ⟨⟩ := env; cases hsc; rfl) (by intro env hsc; obtain ⟨⟩ := env; cases hsc; rfl))
    (simSs_one (simS_expr (simE_append (simE_var 3 rfl (by kernel_rfl)) (simA_cons (simE_var 9 rfl (by kernel_rfl)) simA_nil)))))
    simSs_nil)))
    (simSs_one (simS_expr (simE_append (simE_var 5 rfl (by kernel_rfl)) (simA_cons (simE_tup (simA_cons (simE_var 6 rfl (by kernel_rfl)) (simA_cons (simE_dget (simE_var 4 rfl (by kernel_rfl)) (simE_var 7 rfl (by kernel_rfl))) (simA_cons (simE_dget (simE_var 4 rfl (by kernel_rfl)) (simE_var 8 rfl (by kernel_rfl))) simA_nil)))) simA_nil)))))))
    (simSs_one (simS_ret (simE_tup (simA_cons simE_str (simA_cons (simE_var 0 rfl (by kernel_rfl)) (simA_cons (simE_tupleOf (by kernel_rfl) F.b_tuple (simA_cons (simE_var 5 rfl (by kernel_rfl)) simA_nil)) simA_nil))))))))))
theorem sim_p_within {g : Gs} [NoLam g] (F : Fx g) {u P : Addr} (TB : LamX.TabB g.base g.mg u P) (hT1 : (P, ("within" ++ ".<locals>." ++ "<lambda>" : Str)) ∈ g.T) (hT2 : ∀ p ∈ g.T, p.1 = P → p.2 = ("within" ++ ".<locals>." ++ "<lambda>" : Str)) (dp_need_wood : DefOk g 5 "need_wood" s_p_need_wood ps_p_need_wood d_p_need_wood) (dp_need_place : DefOk g 3 "need_place" s_p_need_place ps_p_need_place d_p_need_place) (dp_node_told : DefOk g 1 "node_told" s_p_node_told ps_p_node_told d_p_node_told) (dp_numbered : DefOkL g 2 "numbered" s_p_numbered ["scope", "first"] 1 d_p_numbered) (E : XK) : SimSs { defC g N_p_within s_p_within 5 E with lam := some (u, "within" ++ ".<locals>.") } (defBody s_p_within) f_p_within :=
  (simSs_cons (simS_expr (simE_call dp_need_wood lev (by kernel_rfl) b_p_need_wood (simA_cons (simE_var 0 rfl (by kernel_rfl)) simA_nil)))
    (simSs_cons (simS_expr (simE_call dp_need_place lev (by kernel_rfl) b_p_need_place (simA_cons (simE_var 1 rfl (by kernel_rfl)) simA_nil)))
    (simSs_one (simS_ret (simE_callLm (Nl := Nl_p_within_0) (pl := ["node"]) (frl := ["wood"]) (js := [0]) (kl := 0) rfl dp_numbered lev lev (by kernel_rfl) (simAL_cons (simE_ix (simE_var 0 rfl (by kernel_rfl)) simE_int) (simAL_cons (simE_call dp_node_told lev (by kernel_rfl) b_p_node_told (simA_cons (simE_var 0 rfl (by kernel_rfl)) (simA_cons (simE_var 1 rfl (by kernel_rfl)) simA_nil))) (simAL_lam rfl TB hT1 hT2 (by intro _; rfl) (by kernel_rfl)))) (NdefX.nscope_by (by decide +kernel)) rfl (fun _ _ _ _ _ us hl => match us, hl with | [_], _ => rfl) (by kernel_rfl) rfl (fun _ => rfl) (fun _ => (simE_ix (simE_ix (simE_var 1 rfl (by kernel_rfl)) simE_int) (simE_var 0 rfl (by kernel_rfl)))) (fun _ => ⟨_, _, rfl, rfl, rfl⟩))))))
theorem sim_begun {g : Gs} [NoLam g] (F : Fx g)  (E : XK) : SimSs (defC g N_begun s_begun 0 E) (defBody s_begun) f_begun :=
  (simSs_cons (simS_setLc [("_law_grain", 2)] loopN 1 rfl (by kernel_rfl) (by kernel_rfl) (by kernel_rfl) (by kernel_rfl) (simI_list (simE_var 0 rfl (by kernel_rfl))) (by kernel_rfl) (simG_name 2 rfl (by kernel_rfl)) (simTs_one (simT_ge (simE_abs (by kernel_rfl) F.b_abs (simA_cons (simE_var 2 rfl (by kernel_rfl)) simA_nil)) (simE_pow simE_int simE_int))) (simE_sub (simE_abs (by kernel_rfl) F.b_abs (simA_cons (simE_var 2 rfl (by kernel_rfl)) simA_nil)) (simE_pow simE_int simE_int)) (by decide))
    (simSs_one (simS_ret (simE_disp (simP_cons simE_str (simE_var 1 rfl (by kernel_rfl)) (simP_cons simE_str (simE_lc [("_law_grain", 2)] loopN (simI_list (simE_var 0 rfl (by kernel_rfl))) (by kernel_rfl) (simG_name 2 rfl (by kernel_rfl)) simTs_nil (simE_mod (simE_intOf (by kernel_rfl) F.b_int (simA_cons (simE_abs (by kernel_rfl) F.b_abs (simA_cons (simE_var 2 rfl (by kernel_rfl)) simA_nil)) simA_nil)) simE_int) (by decide)) (simP_cons simE_str simE_int (simP_cons simE_str simE_int simP_nil))))))))
theorem sim_mixed {g : Gs} [NoLam g] (F : Fx g)  (E : XK) : SimSs (defC g N_mixed s_mixed 0 E) (defBody s_mixed) f_mixed :=
  (simSs_cons (simS_par2 (i := 1) (j := 2) rfl rfl (by decide) (by kernel_rfl) (by kernel_rfl) (simA_cons (simE_add (simE_dget (simE_var 0 rfl (by kernel_rfl)) simE_str) simE_int) (simA_cons simE_int simA_nil)) (by intro env hsc; obtain ⟨⟩ := env; cases hsc; rfl) (by intro env hsc; obtain ⟨⟩ := env; cases hsc; rfl))
    (simSs_cons (simS_asg (simE_var 1 rfl (by kernel_rfl)) (simG_sub (simE_var 0 rfl (by kernel_rfl)) simE_str) (by intro env hsc; obtain ⟨⟩ := env; cases hsc; rfl) (by intro env hsc; obtain ⟨⟩ := env; cases hsc; rfl))
    (simSs_cons (simS_for loopN (simI_list (simE_lst (simA_cons simE_int (simA_cons simE_int (simA_cons simE_int (simA_cons simE_int simA_nil)))))) (simG_name 3 rfl (by kernel_rfl))
    (simSs_cons (simS_asg (simE_add (simE_mul simE_int (simE_var 1 rfl (by kernel_rfl))) (simE_div (simE_var 3 rfl (by kernel_rfl)) simE_int)) (simG_name 4 rfl (by kernel_rfl)) (by intro env hsc; obtain ⟨⟩ := env; cases hsc; rfl) (by intro env hsc; obtain ⟨⟩ := env; cases hsc; rfl))
    (simSs_cons (simS_for loopN (simI_list (simE_dget (simE_var 0 rfl (by kernel_rfl)) simE_str)) (simG_name 5 rfl (by kernel_rfl))
    (simSs_one (simS_asg (simE_mod (simE_intOf (by kernel_rfl) F.b_int (simA_cons (simE_add (simE_add (simE_mul (simE_var 4 rfl (by kernel_rfl)) simE_int) (simE_var 5 rfl (by kernel_rfl))) (simE_var 1 rfl (by kernel_rfl))) simA_nil)) (simE_var 3 rfl (by kernel_rfl))) (simG_name 4 rfl (by kernel_rfl)) (by intro env hsc; obtain ⟨⟩ := env; cases hsc; rfl) (by intro env hsc; obtain ⟨⟩ := env; cases hsc; rfl))))
    (simSs_one (simS_asg (simE_add (simE_mul (simE_var 2 rfl (by kernel_rfl)) simE_int) (simE_mod (simE_intOf (by kernel_rfl) F.b_int (simA_cons (simE_pow (simE_var 4 rfl (by kernel_rfl)) simE_int) simA_nil)) (simE_var 3 rfl (by kernel_rfl)))) (simG_name 2 rfl (by kernel_rfl)) (by intro env hsc; obtain ⟨⟩ := env; cases hsc; rfl) (by intro env hsc; obtain ⟨⟩ := env; cases hsc; rfl))))))
    (simSs_one (simS_ret (simE_var 2 rfl (by kernel_rfl)))))))
theorem sim_take {g : Gs} [NoLam g] (F : Fx g) (dmixed : DefOk g 1 "_law_mixed" s_mixed ps_mixed d_mixed) (E : XK) : SimSs (defC g N_take s_take 1 E) (defBody s_take) f_take :=
  (simSs_cons (simS_if (simT_eq (simE_dget (simE_var 0 rfl (by kernel_rfl)) simE_str) simE_int)
    (simSs_one (simS_asg (simE_if (simT_ne (simE_dget (simE_var 0 rfl (by kernel_rfl)) simE_str) (simE_lst simA_nil)) (simE_popAt (simE_dget (simE_var 0 rfl (by kernel_rfl)) simE_str) (simA_cons simE_int simA_nil)) (simE_call dmixed lev (by kernel_rfl) b_mixed (simA_cons (simE_var 0 rfl (by kernel_rfl)) simA_nil))) (simG_sub (simE_var 0 rfl (by kernel_rfl)) simE_str) (by intro env hsc; obtain ⟨⟩ := env; cases hsc; rfl) (by intro env hsc; obtain ⟨⟩ := env; cases hsc; rfl)))
    simSs_nil)
    (simSs_cons (simS_asg (simE_mod (simE_intOf (by kernel_rfl) F.b_int (simA_cons (simE_dget (simE_var 0 rfl (by kernel_rfl)) simE_str) simA_nil)) (simE_var 1 rfl (by kernel_rfl))) (simG_name 2 rfl (by kernel_rfl)) (by intro env hsc; obtain ⟨⟩ := env; cases hsc; rfl) (by intro env hsc; obtain ⟨⟩ := env; cases hsc; rfl))
    (simSs_cons (simS_asg (simE_div (simE_dget (simE_var 0 rfl (by kernel_rfl)) simE_str) (simE_var 1 rfl (by kernel_rfl))) (simG_sub (simE_var 0 rfl (by kernel_rfl)) simE_str) (by intro env hsc; obtain ⟨⟩ := env; cases hsc; rfl) (by intro env hsc; obtain ⟨⟩ := env; cases hsc; rfl))
    (simSs_one (simS_ret (simE_var 2 rfl (by kernel_rfl)))))))
theorem sim_pick {g : Gs} [NoLam g] (F : Fx g) (dtake : DefOk g 2 "_law_take" s_take ps_take d_take) (E : XK) : SimSs (defC g N_pick s_pick 2 E) (defBody s_pick) f_pick :=
  (simSs_one (simS_ret (simE_ix (simE_var 1 rfl (by kernel_rfl)) (simE_call dtake lev (by kernel_rfl) b_take (simA_cons (simE_var 0 rfl (by kernel_rfl)) (simA_cons (simE_len (by kernel_rfl) F.b_len (simA_cons (simE_var 1 rfl (by kernel_rfl)) simA_nil)) simA_nil))))))
theorem sim_shuffled {g : Gs} [NoLam g] (F : Fx g) (dtake : DefOk g 2 "_law_take" s_take ps_take d_take) (E : XK) : SimSs (defC g N_shuffled s_shuffled 2 E) (defBody s_shuffled) f_shuffled :=
  (simSs_cons (simS_par2 (i := 2) (j := 3) rfl rfl (by decide) (by kernel_rfl) (by kernel_rfl) (simA_cons (simE_listOf (by kernel_rfl) F.b_list (simA_cons (simE_var 1 rfl (by kernel_rfl)) simA_nil)) (simA_cons (simE_lst simA_nil) simA_nil)) (by intro env hsc; obtain ⟨⟩ := env; cases hsc; rfl) (by intro env hsc; obtain ⟨⟩ := env; cases hsc; rfl))
    (simSs_cons (simS_while loopN (simT_ne (simE_var 2 rfl (by kernel_rfl)) (simE_lst simA_nil))
    (simSs_one (simS_expr (simE_append (simE_var 3 rfl (by kernel_rfl)) (simA_cons (simE_popAt (simE_var 2 rfl (by kernel_rfl)) (simA_cons (simE_call dtake lev (by kernel_rfl) b_take (simA_cons (simE_var 0 rfl (by kernel_rfl)) (simA_cons (simE_len (by kernel_rfl) F.b_len (simA_cons (simE_var 2 rfl (by kernel_rfl)) simA_nil)) simA_nil))) simA_nil)) simA_nil)))))
    (simSs_one (simS_ret (simE_var 3 rfl (by kernel_rfl))))))
theorem sim_names {g : Gs} [NoLam g] (F : Fx g) (dpick : DefOk g 3 "_law_pick" s_pick ps_pick d_pick) (dshuffled : DefOk g 3 "_law_shuffled" s_shuffled ps_shuffled d_shuffled) (E : XK) : SimSs (defC g N_names s_names 3 E) (defBody s_names) f_names :=
  (simSs_cons (simS_asg (simE_lst simA_nil) (simG_name 2 rfl (by kernel_rfl)) (by intro env hsc; obtain ⟨⟩ := env; cases hsc; rfl) (by intro env hsc; obtain ⟨⟩ := env; cases hsc; rfl))
    (simSs_cons (simS_for loopN (simI_str simE_str) (simG_name 3 rfl (by kernel_rfl))
    (simSs_one (simS_asg (simE_add (simE_var 2 rfl (by kernel_rfl)) (simE_lc [("_law_other", 5)] loopN (simI_str simE_str) (by kernel_rfl) (simG_name 5 rfl (by kernel_rfl)) simTs_nil (simE_add (simE_var 3 rfl (by kernel_rfl)) (simE_var 5 rfl (by kernel_rfl))) (by decide))) (simG_name 2 rfl (by kernel_rfl)) (by intro env hsc; obtain ⟨⟩ := env; cases hsc; rfl) (by intro env hsc; obtain ⟨⟩ := env; cases hsc; rfl))))
    (simSs_one (simS_ret (simE_lc [("_law_stem", 4)] loopN (simI_list (simE_slice (simE_call dshuffled lev (by kernel_rfl) b_shuffled (simA_cons (simE_var 0 rfl (by kernel_rfl)) (simA_cons (simE_var 2 rfl (by kernel_rfl)) simA_nil))) simO_none (simO_some (simE_var 1 rfl (by kernel_rfl))))) (by kernel_rfl) (simG_name 4 rfl (by kernel_rfl)) simTs_nil (simE_add (simE_var 4 rfl (by kernel_rfl)) (simE_call dpick lev (by kernel_rfl) b_pick (simA_cons (simE_var 0 rfl (by kernel_rfl)) (simA_cons (simE_lst (simA_cons simE_str (simA_cons simE_str (simA_cons simE_str (simA_cons simE_str simA_nil))))) simA_nil)))) (by decide))))))
theorem sim_scope {g : Gs} [NoLam g] (F : Fx g) (dtake : DefOk g 2 "_law_take" s_take ps_take d_take) (dnames : DefOk g 4 "_law_names" s_names ps_names d_names) (E : XK) : SimSs (defC g N_scope s_scope 4 E) (defBody s_scope) f_scope :=
  (simSs_one (simS_ret (simE_tupleOf (by kernel_rfl) F.b_tuple (simA_cons (simE_sortedS (by kernel_rfl) F.b_sorted (simA_cons (simE_call dnames lev (by kernel_rfl) b_names (simA_cons (simE_var 0 rfl (by kernel_rfl)) (simA_cons (simE_call dtake lev (by kernel_rfl) b_take (simA_cons (simE_var 0 rfl (by kernel_rfl)) (simA_cons (simE_add (simE_var 1 rfl (by kernel_rfl)) simE_int) simA_nil))) simA_nil))) simA_nil)) simA_nil))))
theorem sim_letters {g : Gs} [NoLam g] (F : Fx g)  (E : XK) : SimSs (defC g N_letters s_letters 0 E) (defBody s_letters) f_letters :=
  (simSs_cons (simS_asg (simE_lst (simA_cons (simE_tup simA_nil) simA_nil)) (simG_name 1 rfl (by kernel_rfl)) (by intro env hsc; obtain ⟨⟩ := env; cases hsc; rfl) (by intro env hsc; obtain ⟨⟩ := env; cases hsc; rfl))
    (simSs_cons (simS_for loopN (simI_tup (simE_var 0 rfl (by kernel_rfl))) (simG_name 2 rfl (by kernel_rfl))
    (simSs_one (simS_asg (simE_add (simE_var 1 rfl (by kernel_rfl)) (simE_lc [("_law_letter", 3)] loopN (simI_list (simE_var 1 rfl (by kernel_rfl))) (by kernel_rfl) (simG_name 3 rfl (by kernel_rfl)) simTs_nil (simE_add (simE_var 3 rfl (by kernel_rfl)) (simE_tup (simA_cons (simE_var 2 rfl (by kernel_rfl)) simA_nil))) (by decide))) (simG_name 1 rfl (by kernel_rfl)) (by intro env hsc; obtain ⟨⟩ := env; cases hsc; rfl) (by intro env hsc; obtain ⟨⟩ := env; cases hsc; rfl))))
    (simSs_one (simS_ret (simE_var 1 rfl (by kernel_rfl))))))
theorem sim_wood {g : Gs} [NoLam g] (F : Fx g) (dtake : DefOk g 2 "_law_take" s_take ps_take d_take) (dpick : DefOk g 3 "_law_pick" s_pick ps_pick d_pick) (dletters : DefOk g 1 "_law_letters" s_letters ps_letters d_letters) (E : XK) : SimSs (defC g N_wood s_wood 3 E) (defBody s_wood) f_wood :=
  (simSs_cons (simS_asg (simE_tup (simA_cons (simE_add simE_int (simE_call dtake lev (by kernel_rfl) b_take (simA_cons (simE_var 0 rfl (by kernel_rfl)) (simA_cons (simE_var 2 rfl (by kernel_rfl)) simA_nil)))) (simA_cons (simE_call dletters lev (by kernel_rfl) b_letters (simA_cons (simE_var 1 rfl (by kernel_rfl)) simA_nil)) simA_nil))) (simG_tup 2 (simGs_cons (simG_name 3 rfl (by kernel_rfl)) (simGs_cons (simG_name 4 rfl (by kernel_rfl)) simGs_nil))) (by intro env hsc; obtain ⟨⟩ := env; cases hsc; rfl) (by intro env hsc; obtain ⟨⟩ := env; cases hsc; rfl))
    (simSs_cons (simS_setLc [("_law_k", 6)] loopN 5 rfl (by kernel_rfl) (by kernel_rfl) (by kernel_rfl) (by kernel_rfl) (simI_range (by kernel_rfl) F.b_range (simA_cons (simE_var 3 rfl (by kernel_rfl)) simA_nil)) (by kernel_rfl) (simG_name 6 rfl (by kernel_rfl)) simTs_nil (simE_tup (simA_cons (simE_call dpick lev (by kernel_rfl) b_pick (simA_cons (simE_var 0 rfl (by kernel_rfl)) (simA_cons (simE_var 4 rfl (by kernel_rfl)) simA_nil))) (simA_cons (simE_call dtake lev (by kernel_rfl) b_take (simA_cons (simE_var 0 rfl (by kernel_rfl)) (simA_cons (simE_var 3 rfl (by kernel_rfl)) simA_nil))) (simA_cons (simE_call dtake lev (by kernel_rfl) b_take (simA_cons (simE_var 0 rfl (by kernel_rfl)) (simA_cons (simE_var 3 rfl (by kernel_rfl)) simA_nil))) simA_nil)))) (by decide))
    (simSs_one (simS_ret (simE_tup (simA_cons simE_str (simA_cons (simE_var 1 rfl (by kernel_rfl)) (simA_cons (simE_tupleOf (by kernel_rfl) F.b_tuple (simA_cons (simE_var 5 rfl (by kernel_rfl)) simA_nil)) simA_nil))))))))
theorem sim_at {g : Gs} [NoLam g] (F : Fx g)  (E : XK) : SimSs (defC g N_at s_at 0 E) (defBody s_at) f_at :=
  (simSs_cons (simS_asg simE_int (simG_name 2 rfl (by kernel_rfl)) (by intro env hsc; obtain ⟨⟩ := env; cases hsc; rfl) (by intro env hsc; obtain ⟨⟩ := env; cases hsc; rfl))
    (simSs_cons (simS_for loopN (simI_tup (simE_var 1 rfl (by kernel_rfl))) (simG_name 3 rfl (by kernel_rfl))
    (simSs_one (simS_asg (simE_ix (simE_ix (simE_ix (simE_var 0 rfl (by kernel_rfl)) simE_int) (simE_var 2 rfl (by kernel_rfl))) (simE_add simE_int (simE_var 3 rfl (by kernel_rfl)))) (simG_name 2 rfl (by kernel_rfl)) (by intro env hsc; obtain ⟨⟩ := env; cases hsc; rfl) (by intro env hsc; obtain ⟨⟩ := env; cases hsc; rfl))))
    (simSs_one (simS_ret (simE_var 2 rfl (by kernel_rfl))))))
theorem sim_numbered {g : Gs} [NoLam g] (F : Fx g)  (E : XK) : SimSs (defC g N_numbered s_numbered 0 E) (defBody s_numbered) f_numbered :=
  (simSs_cons (simS_par3 (i := 3) (j := 4) (l := 5) rfl rfl rfl (by decide) (by decide) (by decide) (by kernel_rfl) (by kernel_rfl) (by kernel_rfl) (simA_cons (simE_lst (simA_cons (simE_var 1 rfl (by kernel_rfl)) simA_nil)) (simA_cons (simE_disp (simP_cons (simE_var 1 rfl (by kernel_rfl)) simE_int simP_nil)) (simA_cons (simE_lst simA_nil) simA_nil))) (by intro env hsc; obtain ⟨⟩ := env; cases hsc; rfl) (by intro env hsc; obtain ⟨⟩ := env; cases hsc; rfl))
    (simSs_cons (simS_while loopN (simT_lt (simE_len (by kernel_rfl) F.b_len (simA_cons (simE_var 5 rfl (by kernel_rfl)) simA_nil)) (simE_len (by kernel_rfl) F.b_len (simA_cons (simE_var 3 rfl (by kernel_rfl)) simA_nil)))
    (simSs_cons (simS_asg (simE_ix (simE_var 2 rfl (by kernel_rfl)) (simE_ix (simE_var 3 rfl (by kernel_rfl)) (simE_len (by kernel_rfl) F.b_len (simA_cons (simE_var 5 rfl (by kernel_rfl)) simA_nil)))) (simG_tup 3 (simGs_cons (simG_name 6 rfl (by kernel_rfl)) (simGs_cons (simG_name 7 rfl (by kernel_rfl)) (simGs_cons (simG_name 8 rfl (by kernel_rfl)) simGs_nil)))) (by intro env hsc; obtain ⟨⟩ := env; cases hsc; rfl) (by intro env hsc; obtain ⟨⟩ := env; cases hsc; rfl))
    (simSs_cons (simS_for loopN (simI_list (simE_lst (simA_cons (simE_var 7 rfl (by kernel_rfl)) (simA_cons (simE_var 8 rfl (by kernel_rfl)) simA_nil)))) (simG_name 9 rfl (by kernel_rfl))
    (simSs_one (simS_if (simT_dnin (simE_var 9 rfl (by kernel_rfl)) (simE_var 4 rfl (by kernel_rfl)))
    (simSs_cons (simS_asg (simE_len (by kernel_rfl) F.b_len (simA_cons (simE_var 3 rfl (by kernel_rfl)) simA_nil)) (simG_sub (simE_var 4 rfl (by kernel_rfl)) (simE_var 9 rfl (by kernel_rfl))) (by intro env hsc; obtain ⟨⟩ := env; cases hsc; rfl) (by intro env hsc; obtain ⟨⟩ := env; cases hsc; rfl))
    (simSs_one (simS_expr (simE_append (simE_var 3 rfl (by kernel_rfl)) (simA_cons (simE_var 9 rfl (by kernel_rfl)) simA_nil)))))
    simSs_nil)))
    (simSs_one (simS_expr (simE_append (simE_var 5 rfl (by kernel_rfl)) (simA_cons (simE_tup (simA_cons (simE_var 6 rfl (by kernel_rfl)) (simA_cons (simE_dget (simE_var 4 rfl (by kernel_rfl)) (simE_var 7 rfl (by kernel_rfl))) (simA_cons (simE_dget (simE_var 4 rfl (by kernel_rfl)) (simE_var 8 rfl (by kernel_rfl))) simA_nil)))) simA_nil)))))))
    (simSs_one (simS_ret (simE_tup (simA_cons simE_str (simA_cons (simE_var 0 rfl (by kernel_rfl)) (simA_cons (simE_tupleOf (by kernel_rfl) F.b_tuple (simA_cons (simE_var 5 rfl (by kernel_rfl)) simA_nil)) simA_nil))))))))
theorem sim_place {g : Gs} [NoLam g] (F : Fx g) (dtake : DefOk g 2 "_law_take" s_take ps_take d_take) (E : XK) : SimSs (defC g N_place s_place 2 E) (defBody s_place) f_place :=
  (simSs_one (simS_ret (simE_tupleOf (by kernel_rfl) F.b_tuple (simA_cons (simE_lc [("_law_k", 2)] loopN (simI_range (by kernel_rfl) F.b_range (simA_cons (simE_call dtake lev (by kernel_rfl) b_take (simA_cons (simE_var 0 rfl (by kernel_rfl)) (simA_cons (simE_add (simE_var 1 rfl (by kernel_rfl)) simE_int) simA_nil))) simA_nil)) (by kernel_rfl) (simG_name 2 rfl (by kernel_rfl)) simTs_nil (simE_call dtake lev (by kernel_rfl) b_take (simA_cons (simE_var 0 rfl (by kernel_rfl)) (simA_cons simE_int simA_nil))) (by decide)) simA_nil))))
theorem sim_bad_wood {g : Gs} [NoLam g] (F : Fx g) (dpick : DefOk g 3 "_law_pick" s_pick ps_pick d_pick) (E : XK) : SimSs (defC g N_bad_wood s_bad_wood 3 E) (defBody s_bad_wood) f_bad_wood :=
  (simSs_cons (simS_asg (simE_tup (simA_cons (simE_tup simA_nil) (simA_cons simE_int (simA_cons simE_int simA_nil)))) (simG_name 1 rfl (by kernel_rfl)) (by intro env hsc; obtain ⟨⟩ := env; cases hsc; rfl) (by intro env hsc; obtain ⟨⟩ := env; cases hsc; rfl))
    (simSs_cons (simS_asg (simE_lst (simA_cons simE_non (simA_cons simE_int (simA_cons simE_str (simA_cons (simE_tup (simA_cons simE_str (simA_cons (simE_tup simA_nil) simA_nil))) (simA_cons (simE_tup (simA_cons simE_str (simA_cons (simE_tup simA_nil) (simA_cons (simE_tup simA_nil) simA_nil)))) (simA_cons (simE_tup (simA_cons simE_str (simA_cons (simE_tup simA_nil) (simA_cons (simE_tup (simA_cons (simE_tup (simA_cons (simE_tup simA_nil) (simA_cons simE_int (simA_cons simE_int simA_nil)))) simA_nil)) simA_nil)))) (simA_cons (simE_tup (simA_cons simE_str (simA_cons (simE_tup simA_nil) (simA_cons (simE_lst (simA_cons (simE_var 1 rfl (by kernel_rfl)) simA_nil)) simA_nil)))) (simA_cons (simE_tup (simA_cons simE_str (simA_cons (simE_tup (simA_cons simE_str (simA_cons simE_str simA_nil))) (simA_cons (simE_tup (simA_cons (simE_var 1 rfl (by kernel_rfl)) simA_nil)) simA_nil)))) simA_nil))))))))) (simG_name 2 rfl (by kernel_rfl)) (by intro env hsc; obtain ⟨⟩ := env; cases hsc; rfl) (by intro env hsc; obtain ⟨⟩ := env; cases hsc; rfl))
    (simSs_cons (simS_asg (simE_add (simE_var 2 rfl (by kernel_rfl)) (simE_lst (simA_cons (simE_tup (simA_cons simE_str (simA_cons (simE_tup (simA_cons simE_str (simA_cons simE_str simA_nil))) (simA_cons (simE_tup (simA_cons (simE_var 1 rfl (by kernel_rfl)) simA_nil)) simA_nil)))) (simA_cons (simE_tup (simA_cons simE_str (simA_cons (simE_tup (simA_cons simE_str (simA_cons simE_str (simA_cons simE_str (simA_cons simE_str simA_nil))))) (simA_cons (simE_tup (simA_cons (simE_var 1 rfl (by kernel_rfl)) simA_nil)) simA_nil)))) (simA_cons (simE_tup (simA_cons simE_str (simA_cons (simE_tup (simA_cons simE_str simA_nil)) (simA_cons (simE_tup (simA_cons (simE_tup (simA_cons (simE_tup (simA_cons simE_str simA_nil)) (simA_cons simE_int (simA_cons simE_int simA_nil)))) simA_nil)) simA_nil)))) simA_nil))))) (simG_name 2 rfl (by kernel_rfl)) (by intro env hsc; obtain ⟨⟩ := env; cases hsc; rfl) (by intro env hsc; obtain ⟨⟩ := env; cases hsc; rfl))
    (simSs_cons (simS_asg (simE_add (simE_var 2 rfl (by kernel_rfl)) (simE_lst (simA_cons (simE_tup (simA_cons simE_str (simA_cons (simE_tup simA_nil) (simA_cons (simE_tup (simA_cons (simE_tup (simA_cons simE_int (simA_cons simE_int simA_nil))) simA_nil)) simA_nil)))) (simA_cons (simE_tup (simA_cons simE_str (simA_cons (simE_tup simA_nil) (simA_cons (simE_tup (simA_cons (simE_tup (simA_cons (simE_tup simA_nil) (simA_cons simE_int (simA_cons simE_bl simA_nil)))) simA_nil)) simA_nil)))) (simA_cons (simE_tup (simA_cons simE_str (simA_cons (simE_tup simA_nil) (simA_cons (simE_tup (simA_cons (simE_var 1 rfl (by kernel_rfl)) simA_nil)) simA_nil)))) (simA_cons (simE_lst (simA_cons simE_str (simA_cons (simE_tup simA_nil) (simA_cons (simE_tup (simA_cons (simE_var 1 rfl (by kernel_rfl)) simA_nil)) simA_nil)))) (simA_cons (simE_tup (simA_cons simE_str (simA_cons (simE_tup simA_nil) (simA_cons (simE_tup (simA_cons (simE_tup (simA_cons (simE_tup simA_nil) (simA_cons (simE_neg simE_int) (simA_cons simE_int simA_nil)))) simA_nil)) simA_nil)))) simA_nil))))))) (simG_name 2 rfl (by kernel_rfl)) (by intro env hsc; obtain ⟨⟩ := env; cases hsc; rfl) (by intro env hsc; obtain ⟨⟩ := env; cases hsc; rfl))
    (simSs_one (simS_ret (simE_call dpick lev (by kernel_rfl) b_pick (simA_cons (simE_var 0 rfl (by kernel_rfl)) (simA_cons (simE_add (simE_var 2 rfl (by kernel_rfl)) (simE_lst (simA_cons (simE_tup (simA_cons simE_str (simA_cons (simE_tup (simA_cons simE_str simA_nil)) (simA_cons (simE_tup (simA_cons (simE_var 1 rfl (by kernel_rfl)) simA_nil)) simA_nil)))) (simA_cons (simE_tup (simA_cons simE_str (simA_cons (simE_tup (simA_cons simE_str simA_nil)) (simA_cons (simE_tup (simA_cons (simE_tup (simA_cons (simE_lst (simA_cons simE_str simA_nil)) (simA_cons simE_int (simA_cons simE_int simA_nil)))) simA_nil)) simA_nil)))) (simA_cons (simE_tup (simA_cons simE_str (simA_cons (simE_tup simA_nil) (simA_cons (simE_tup (simA_cons (simE_tup (simA_cons (simE_tup simA_nil) (simA_cons simE_int (simA_cons simE_int (simA_cons simE_int simA_nil))))) simA_nil)) simA_nil)))) simA_nil))))) simA_nil)))))))))
theorem sim_bad_place {g : Gs} [NoLam g] (F : Fx g) (dpick : DefOk g 3 "_law_pick" s_pick ps_pick d_pick) (E : XK) : SimSs (defC g N_bad_place s_bad_place 3 E) (defBody s_bad_place) f_bad_place :=
  (simSs_one (simS_ret (simE_call dpick lev (by kernel_rfl) b_pick (simA_cons (simE_var 0 rfl (by kernel_rfl)) (simA_cons (simE_lst (simA_cons simE_non (simA_cons simE_int (simA_cons (simE_lst (simA_cons simE_int simA_nil)) (simA_cons (simE_tup (simA_cons simE_int simA_nil)) (simA_cons (simE_tup (simA_cons simE_bl simA_nil)) (simA_cons simE_str (simA_cons (simE_tup (simA_cons (simE_neg simE_int) simA_nil)) (simA_cons (simE_tup (simA_cons simE_int (simA_cons simE_str simA_nil))) (simA_cons (simE_tup (simA_cons (simE_tup (simA_cons simE_int simA_nil)) simA_nil)) simA_nil)))))))))) simA_nil)))))
theorem bk_p_node_at : ∀ (kV doc pm : Value) (an : Option Addr) (cdv ct : Value) (ws ys : List Value), ws.length = 2 → perm [1, 0] ws = some ys → bindArgs (PySem.W.fnOf "node_at" "node_at" (defArgs s_p_node_at) (defBody s_p_node_at) (defScope s_p_node_at) .none kV doc pm an cdv ct) ⟨[], (["place", "wood"] : List Str).zip ws⟩ = pure (ps_p_node_at.zip ys) := fun _ _ _ _ _ _ ws ys hl hp => match ws, hl with | [_, _], _ => by cases hp; rfl
theorem bk_p_within : ∀ (kV doc pm : Value) (an : Option Addr) (cdv ct : Value) (ws ys : List Value), ws.length = 2 → perm [1, 0] ws = some ys → bindArgs (PySem.W.fnOf "within" "within" (defArgs s_p_within) (defBody s_p_within) (defScope s_p_within) .none kV doc pm an cdv ct) ⟨[], (["place", "wood"] : List Str).zip ws⟩ = pure (ps_p_within.zip ys) := fun _ _ _ _ _ _ ws ys hl hp => match ws, hl with | [_, _], _ => by cases hp; rfl
theorem sim_main {g : Gs} [NoLam g] (F : Fx g) {u P : Addr} (TB : LamX.TabB g.base g.mg u P) (hT1 : (P, ("law" ++ ".<locals>." ++ "<lambda>" : Str)) ∈ g.T) (hT2 : ∀ p ∈ g.T, p.1 = P → p.2 = ("law" ++ ".<locals>." ++ "<lambda>" : Str)) (dp_node_at : DefOk g 6 "node_at" s_p_node_at ps_p_node_at d_p_node_at) (dp_within : DefOk g 6 "within" s_p_within ps_p_within d_p_within) (dbegun : DefOk g 1 "_law_begun" s_begun ps_begun d_begun) (dscope : DefOk g 5 "_law_scope" s_scope ps_scope d_scope) (dwood : DefOk g 4 "_law_wood" s_wood ps_wood d_wood) (dat : DefOk g 1 "_law_at" s_at ps_at d_at) (dnumbered : DefOk g 1 "_law_numbered" s_numbered ps_numbered d_numbered) (dplace : DefOk g 3 "_law_place" s_place ps_place d_place) (dbad_wood : DefOk g 4 "_law_bad_wood" s_bad_wood ps_bad_wood d_bad_wood) (dbad_place : DefOk g 4 "_law_bad_place" s_bad_place ps_bad_place d_bad_place) (E : XK) : SimSs { defC g N_main s_main 8 E with gd := true, lam := some (u, "law" ++ ".<locals>.") } (defBody s_main) f_main :=
  (simSs_cons (simS_asg (simE_call dbegun lev (by kernel_rfl) b_begun (simA_cons (simE_var 0 rfl (by kernel_rfl)) simA_nil)) (simG_name 1 rfl (by kernel_rfl)) (by intro env hsc; obtain ⟨⟩ := env; cases hsc; rfl) (by intro env hsc; obtain ⟨⟩ := env; cases hsc; rfl))
    (simSs_cons (simS_for loopN (simI_range (by kernel_rfl) F.b_range (simA_cons (simE_add simE_int (simE_min (by kernel_rfl) F.b_min (simA_cons (simE_len (by kernel_rfl) F.b_len (simA_cons (simE_var 0 rfl (by kernel_rfl)) simA_nil)) (simA_cons simE_int simA_nil)))) simA_nil)) (simG_name 2 rfl (by kernel_rfl))
    (simSs_cons (simS_asg (simE_call dwood lev (by kernel_rfl) b_wood (simA_cons (simE_var 1 rfl (by kernel_rfl)) (simA_cons (simE_call dscope lev (by kernel_rfl) b_scope (simA_cons (simE_var 1 rfl (by kernel_rfl)) (simA_cons simE_int simA_nil))) (simA_cons simE_int simA_nil)))) (simG_name 9 rfl (by kernel_rfl)) (by intro env hsc; obtain ⟨⟩ := env; cases hsc; rfl) (by intro env hsc; obtain ⟨⟩ := env; cases hsc; rfl))
    (simSs_cons (simS_for loopN (simI_range (by kernel_rfl) F.b_range (simA_cons simE_int simA_nil)) (simG_name 3 rfl (by kernel_rfl))
    (simSs_cons (simS_asg (simE_call dplace lev (by kernel_rfl) b_place (simA_cons (simE_var 1 rfl (by kernel_rfl)) (simA_cons simE_int simA_nil))) (simG_name 4 rfl (by kernel_rfl)) (by intro env hsc; obtain ⟨⟩ := env; cases hsc; rfl) (by intro env hsc; obtain ⟨⟩ := env; cases hsc; rfl))
    (simSs_cons (simS_asg (simE_call dat lev (by kernel_rfl) b_at (simA_cons (simE_var 9 rfl (by kernel_rfl)) (simA_cons (simE_var 4 rfl (by kernel_rfl)) simA_nil))) (simG_name 5 rfl (by kernel_rfl)) (by intro env hsc; obtain ⟨⟩ := env; cases hsc; rfl) (by intro env hsc; obtain ⟨⟩ := env; cases hsc; rfl))
    (simSs_cons (simS_asg (simE_call dnumbered lev (by kernel_rfl) b_numbered (simA_cons (simE_ix (simE_var 9 rfl (by kernel_rfl)) simE_int) (simA_cons (simE_var 5 rfl (by kernel_rfl)) (simA_cons (simE_ix (simE_var 9 rfl (by kernel_rfl)) simE_int) simA_nil)))) (simG_name 6 rfl (by kernel_rfl)) (by intro env hsc; obtain ⟨⟩ := env; cases hsc; rfl) (by intro env hsc; obtain ⟨⟩ := env; cases hsc; rfl))
    (simSs_cons (simS_if (simT_ne (simE_repr rfl (by kernel_rfl) F.b_repr (simA_cons (simE_lst (simA_cons (simE_call dp_node_at lev (by kernel_rfl) b_p_node_at (simA_cons (simE_var 9 rfl (by kernel_rfl)) (simA_cons (simE_var 4 rfl (by kernel_rfl)) simA_nil))) (simA_cons (simE_callK (ks := ["place", "wood"]) [1, 0] dp_node_at lev (by kernel_rfl) rfl (by intro _; rfl) (by intro _; rfl) (by intro _; rfl) bk_p_node_at (simK_cons (simE_var 4 rfl (by kernel_rfl)) (simK_cons (simE_var 9 rfl (by kernel_rfl)) simK_nil))) simA_nil))) simA_nil)) (simE_repr rfl (by kernel_rfl) F.b_repr (simA_cons (simE_lst (simA_cons (simE_var 5 rfl (by kernel_rfl)) (simA_cons (simE_var 5 rfl (by kernel_rfl)) simA_nil))) simA_nil)))
    (simSs_one (simS_ret simE_bl))
    simSs_nil)
    (simSs_one (simS_if (simT_ne (simE_repr rfl (by kernel_rfl) F.b_repr (simA_cons (simE_lst (simA_cons (simE_call dp_within lev (by kernel_rfl) b_p_within (simA_cons (simE_var 9 rfl (by kernel_rfl)) (simA_cons (simE_var 4 rfl (by kernel_rfl)) simA_nil))) (simA_cons (simE_callK (ks := ["place", "wood"]) [1, 0] dp_within lev (by kernel_rfl) rfl (by intro _; rfl) (by intro _; rfl) (by intro _; rfl) bk_p_within (simK_cons (simE_var 4 rfl (by kernel_rfl)) (simK_cons (simE_var 9 rfl (by kernel_rfl)) simK_nil))) simA_nil))) simA_nil)) (simE_repr rfl (by kernel_rfl) F.b_repr (simA_cons (simE_lst (simA_cons (simE_var 6 rfl (by kernel_rfl)) (simA_cons (simE_var 6 rfl (by kernel_rfl)) simA_nil))) simA_nil)))
    (simSs_one (simS_ret simE_bl))
    simSs_nil)))))))
    (simSs_cons (simS_asg (simE_tup (simA_cons (simE_call dbad_wood lev (by kernel_rfl) b_bad_wood (simA_cons (simE_var 1 rfl (by kernel_rfl)) simA_nil)) (simA_cons (simE_call dbad_place lev (by kernel_rfl) b_bad_place (simA_cons (simE_var 1 rfl (by kernel_rfl)) simA_nil)) simA_nil))) (simG_tup 2 (simGs_cons (simG_name 7 rfl (by kernel_rfl)) (simGs_cons (simG_name 8 rfl (by kernel_rfl)) simGs_nil))) (by intro env hsc; obtain ⟨⟩ := env; cases hsc; rfl) (by intro env hsc; obtain ⟨⟩ := env; cases hsc; rfl))
    (simSs_one (simS_for loopN (simI_list (simE_lst (simA_cons (simE_fn (by kernel_rfl) F.f_node_at) (simA_cons (simE_fn (by kernel_rfl) F.f_within) simA_nil)))) (simG_name 10 rfl (by kernel_rfl))
    (simSs_cons (simS_if (simT_not (simT_val (simE_isV F.tab (by kernel_rfl) F.b_isinstance (simA_cons (simE_caught F.catcher rfl TB hT1 hT2 (k := 6) lev (by kernel_rfl) (by kernel_rfl) (by intro _; rfl) (by intro _ _ _ _ _; rfl) fun _ => (simE_callV (ft_p_node_at_p_within_ok F dp_node_at dp_within) lev 10 rfl (by kernel_rfl) (simA_cons (simE_var 7 rfl (by kernel_rfl)) (simA_cons (simE_var 8 rfl (by kernel_rfl)) simA_nil)))) (simA_cons (simE_cls (by kernel_rfl) (F.k_BadWood)) simA_nil)))))
    (simSs_one (simS_ret simE_bl))
    simSs_nil)
    (simSs_one (simS_if (simT_not (simT_val (simE_isV F.tab (by kernel_rfl) F.b_isinstance (simA_cons (simE_caught F.catcher rfl TB hT1 hT2 (k := 6) lev (by kernel_rfl) (by kernel_rfl) (by intro _; rfl) (by intro _ _ _ _ _; rfl) fun _ => (simE_callV (ft_p_node_at_p_within_ok F dp_node_at dp_within) lev 10 rfl (by kernel_rfl) (simA_cons (simE_var 9 rfl (by kernel_rfl)) (simA_cons (simE_var 8 rfl (by kernel_rfl)) simA_nil)))) (simA_cons (simE_cls (by kernel_rfl) (F.k_BadPlace)) simA_nil)))))
    (simSs_one (simS_ret simE_bl))
    simSs_nil)))))))))
    (simSs_one (simS_ret simE_bl))))
end L_k01

set_option maxHeartbeats 4000000
namespace L_k01
open PySem PySem.Spec PyProof.Rows L2 S3
/-! ### what the head is asked -/
def dl : List He.DefD := [⟨("is_name", none), "is_name", "is_name", defArgs s_p_is_name, defBody s_p_is_name, defScope s_p_is_name, [], []⟩,
  ⟨("are_names", none), "are_names", "are_names", defArgs s_p_are_names, defBody s_p_are_names, defScope s_p_are_names, [], []⟩,
  ⟨("is_scope", none), "is_scope", "is_scope", defArgs s_p_is_scope, defBody s_p_is_scope, defScope s_p_is_scope, [], []⟩,
  ⟨("is_number", none), "is_number", "is_number", defArgs s_p_is_number, defBody s_p_is_number, defScope s_p_is_number, [], []⟩,
  ⟨("is_node", none), "is_node", "is_node", defArgs s_p_is_node, defBody s_p_is_node, defScope s_p_is_node, [], []⟩,
  ⟨("is_wood", none), "is_wood", "is_wood", defArgs s_p_is_wood, defBody s_p_is_wood, defScope s_p_is_wood, [], []⟩,
  ⟨("need_wood", none), "need_wood", "need_wood", defArgs s_p_need_wood, defBody s_p_need_wood, defScope s_p_need_wood, [], []⟩,
  ⟨("is_place", none), "is_place", "is_place", defArgs s_p_is_place, defBody s_p_is_place, defScope s_p_is_place, [], []⟩,
  ⟨("need_place", none), "need_place", "need_place", defArgs s_p_need_place, defBody s_p_need_place, defScope s_p_need_place, [], []⟩,
  ⟨("node_told", none), "node_told", "node_told", defArgs s_p_node_told, defBody s_p_node_told, defScope s_p_node_told, [], []⟩,
  ⟨("node_at", none), "node_at", "node_at", defArgs s_p_node_at, defBody s_p_node_at, defScope s_p_node_at, [], []⟩,
  ⟨("numbered", none), "numbered", "numbered", defArgs s_p_numbered, defBody s_p_numbered, defScope s_p_numbered, [], []⟩,
  ⟨("within", none), "within", "within", defArgs s_p_within, defBody s_p_within, defScope s_p_within, [], []⟩,
  ⟨("_law_begun", none), "_law_begun", "_law_begun", defArgs s_begun, defBody s_begun, defScope s_begun, [], []⟩,
  ⟨("_law_mixed", none), "_law_mixed", "_law_mixed", defArgs s_mixed, defBody s_mixed, defScope s_mixed, [], []⟩,
  ⟨("_law_take", none), "_law_take", "_law_take", defArgs s_take, defBody s_take, defScope s_take, [], []⟩,
  ⟨("_law_pick", none), "_law_pick", "_law_pick", defArgs s_pick, defBody s_pick, defScope s_pick, [], []⟩,
  ⟨("_law_shuffled", none), "_law_shuffled", "_law_shuffled", defArgs s_shuffled, defBody s_shuffled, defScope s_shuffled, [], []⟩,
  ⟨("_law_names", none), "_law_names", "_law_names", defArgs s_names, defBody s_names, defScope s_names, [], []⟩,
  ⟨("_law_scope", none), "_law_scope", "_law_scope", defArgs s_scope, defBody s_scope, defScope s_scope, [], []⟩,
  ⟨("_law_letters", none), "_law_letters", "_law_letters", defArgs s_letters, defBody s_letters, defScope s_letters, [], []⟩,
  ⟨("_law_wood", none), "_law_wood", "_law_wood", defArgs s_wood, defBody s_wood, defScope s_wood, [], []⟩,
  ⟨("_law_at", none), "_law_at", "_law_at", defArgs s_at, defBody s_at, defScope s_at, [], []⟩,
  ⟨("_law_numbered", none), "_law_numbered", "_law_numbered", defArgs s_numbered, defBody s_numbered, defScope s_numbered, [], []⟩,
  ⟨("_law_place", none), "_law_place", "_law_place", defArgs s_place, defBody s_place, defScope s_place, [], []⟩,
  ⟨("_law_bad_wood", none), "_law_bad_wood", "_law_bad_wood", defArgs s_bad_wood, defBody s_bad_wood, defScope s_bad_wood, [], []⟩,
  ⟨("_law_bad_place", none), "_law_bad_place", "_law_bad_place", defArgs s_bad_place, defBody s_bad_place, defScope s_bad_place, [], []⟩,
  ⟨("law", none), "law", "law", defArgs s_main, defBody s_main, defScope s_main, [], []⟩,
  ⟨("_law_caught", none), "_law_caught", "_law_caught", defArgs s_caught, defBody s_caught, defScope s_caught, [], []⟩]
def fal : List He.Fa := [.glo "is_name", .glo "are_names", .glo "is_scope", .glo "is_number", .glo "is_node", .glo "is_wood", .glo "need_wood", .glo "is_place", .glo "need_place", .glo "node_told", .glo "node_at", .glo "numbered", .glo "within", .glo "_law_begun", .glo "_law_mixed", .glo "_law_take", .glo "_law_pick", .glo "_law_shuffled", .glo "_law_names", .glo "_law_scope", .glo "_law_letters", .glo "_law_wood", .glo "_law_at", .glo "_law_numbered", .glo "_law_place", .glo "_law_bad_wood", .glo "_law_bad_place", .glo "law", .glo "_law_caught", .free "abs", .free "all", .free "bool", .free "int", .free "isinstance", .free "len", .free "list", .free "min", .free "range", .free "repr", .free "sorted", .free "str", .free "tuple", .free "zip", .glo "KEPT", .int "MOST_NAMES" 3, .int "MOST_NODES" 400, .str "SMALL" "abcdefghijklmnopqrstuvwxyz", .glo "BoughError", .glo "BadPlace", .glo "BadWood", .exc "BoughError", .exc "BadPlace", .exc "BadWood"]
abbrev mks : List (Str × Option Str) := [("law", none), ("within", none)]
def nm (i : Nat) : Str := (["BoughError", "BadPlace", "BadWood"] : List Str).getD (clsNo i) "BoughError"
def fnm (i : Nat) : Str := (["node_at", "within"] : List Str).getD i ""
def exB (K : PySem.W.Frag) (D : Addr) : Bool := He.eqO (PySem.W.findIn K (.ref D) "__getattribute__") (some (some (.builtin "BaseException.__getattribute__"))) && (He.eqO (PySem.W.findIn K (.ref D) "__getattr__") (some none) &&
  (decide (PySem.W.subIn K (.ref D) (.type "BaseException") = some true) && (PySem.W.hasDictIn K D && (He.eqO (PySem.W.findIn K (.ref D) "__class__") (some (some (.builtin "object.__class__"))) && (He.eqO (PySem.W.specialIn K (.builtin "object.__class__") "__get__") (some (some (.builtin "getset_descriptor.__get__"))) &&
  (decide (PySem.W.takesIn K (.builtin "object.__class__") = some true) && decide (PySem.W.mroIn K D (.type "object") = some true)))))))
def exT (K : PySem.W.Frag) : Bool := (List.range 3).all fun i => exB K (He.ga K (nm i)) && (decide (PySem.W.exmOne K (.ref (He.ga K (nm i))) (.ref (He.ga K (nm 0))) = some true) && (List.range 3).all fun j => decide (PySem.W.kitOne K (.ref (He.ga K (nm i))) (.ref (He.ga K (nm j))) = some (tab i j)))
def tupC (K : PySem.W.Frag) (a : Addr) : Bool := match K.lookup a with
  | some o => decide (o.cls = .type "tuple")
  | none => false
def exM (K : PySem.W.Frag) : Bool := (mks.all fun y => mks.all fun z => decide ((He.cT K y).2 = (He.cT K z).2 → y = z)) && (true && (He.tupB K "KEPT" (ks_KEPT.map He.Dv.str) && tupC K (He.ga K "KEPT")))
def exA (K : PySem.W.Frag) : Bool := exT K && exM K
theorem clsNo_lt (i : Nat) : clsNo i < 3 := by
  unfold clsNo
  split <;> omega
theorem clsNo_idem (i : Nat) : clsNo (clsNo i) = clsNo i := by
  have h := clsNo_lt i
  show (if clsNo i < 3 then clsNo i else 0) = clsNo i
  rw [if_pos h]
theorem nm_no (i : Nat) : nm (clsNo i) = nm i := by
  unfold nm
  rw [clsNo_idem]
theorem tab_no (i j : Nat) : tab (clsNo i) (clsNo j) = tab i j := by
  unfold tab
  rw [clsNo_idem, clsNo_idem]
theorem exB_ok {K : PySem.W.Frag} {D : Addr} (h : exB K D = true) : ExcC K D := by
  obtain ⟨h1, h⟩ := He.ba h
  obtain ⟨h2, h⟩ := He.ba h
  obtain ⟨h3, h⟩ := He.ba h
  obtain ⟨h4, h⟩ := He.ba h
  obtain ⟨h5, h⟩ := He.ba h
  obtain ⟨h6, h⟩ := He.ba h
  obtain ⟨h7, h8⟩ := He.ba h
  exact ⟨He.eqO_ok h1, He.eqO_ok h2, of_decide_eq_true h3, h4, He.eqO_ok h5, He.eqO_ok h6, of_decide_eq_true h7, of_decide_eq_true h8⟩
theorem exT_at {K : PySem.W.Frag} (h : exT K = true) (i : Nat) : ExcC K (He.ga K (nm i)) ∧ PySem.W.exmOne K (.ref (He.ga K (nm i))) (.ref (He.ga K (nm 0))) = some true ∧ ∀ j, PySem.W.kitOne K (.ref (He.ga K (nm i))) (.ref (He.ga K (nm j))) = some (tab i j) := by
  have h1 := List.all_eq_true.mp h (clsNo i) (List.mem_range.mpr (clsNo_lt i))
  obtain ⟨h2, h3⟩ := He.ba h1
  obtain ⟨h4, h5⟩ := He.ba h3
  rw [nm_no] at h2 h4
  refine ⟨exB_ok h2, of_decide_eq_true h4, fun j => ?_⟩
  have h6 := of_decide_eq_true (List.all_eq_true.mp h5 (clsNo j) (List.mem_range.mpr (clsNo_lt j)))
  rw [nm_no, nm_no, tab_no] at h6
  exact h6
abbrev R : PySem.W.OpenRow := PySem.W.OpenLaw.row PySem.Challenge.rw_allboughs_k01_what_stands_at_places
abbrev hk : PySem.W.Hook := He.hookX 4 fal dl [] mks exA
def ob (s : PySem.W.SharedT) : He.AlX := He.obsX 4 fal dl [] mks exA (HandSHeadRun.getT s)
theorem ob_eq (s : PySem.W.SharedT) : ob s = hk.obs s.abs := He.obsX_eq (HandSHeadRun.getT_eq s)
def loose : List Str := (["BoughError", "BadPlace", "BadWood", "KEPT", "SMALL", "is_name", "MOST_NAMES", "MOST_NODES", "is_number", "are_names", "is_scope", "is_node", "is_wood", "is_place", "need_wood", "need_place", "node_told", "node_at", "numbered", "within", "_law_begun", "_law_mixed", "_law_take", "_law_pick", "_law_shuffled", "_law_caught", "_law_names", "_law_scope", "_law_letters", "_law_wood"] : List Str) ++ (["_law_at", "_law_numbered", "_law_place", "_law_bad_wood", "_law_bad_place"] : List Str)
theorem run (w : World) : HandSHeadRun.RunEq R (PySem.W.view R.prog [39]) hk ob 4000 loose w := by
  intro os
  kernel_rfl
/-! ### what it tells -/
section
variable {w : World} {h base : Heap} {K : PySem.W.Frag} {mg : Str → Option Value}
def gs (P : Program) (w : World) (K : PySem.W.Frag) (mg : Str → Option Value) (base : Heap) : Gs := ⟨P, w, K, mg, base, fun i => He.ga K (nm i), fun i => He.ga K (fnm i), mks.map fun y => ((He.cT K y).2, (y.1 ++ ".<locals>." ++ "<lambda>" : Str)), none⟩
instance {P : Program} {w : World} {K : PySem.W.Frag} {mg : Str → Option Value} {base : Heap} : NoLam (gs P w K mg base) := ⟨rfl⟩
theorem exT_of (c : He.SaysX fal dl [] mks exA w h K) : exT K = true := (He.ba c.more).1
theorem exM_of (c : He.SaysX fal dl [] mks exA w h K) : exM K = true := (He.ba c.more).2
theorem mks_inj (c : He.SaysX fal dl [] mks exA w h K) {y z : Str × Option Str} (hy : y ∈ mks) (hz : z ∈ mks) (e : (He.cT K y).2 = (He.cT K z).2) : y = z := of_decide_eq_true (List.all_eq_true.mp (List.all_eq_true.mp (He.ba (exM_of c)).1 y hy) z hz) e
theorem glo_of (KX : K.In h) (G : h.Ns mainGlobals mg) (c : He.SaysX fal dl [] mks exA w h K) (x : Str) (hx : (He.Fa.glo x) ∈ fal) : mg x = some (.ref (He.ga K x)) := He.glo_ok KX G (He.SaysD.facts c.t.d hx)
theorem fun_of (c : He.SaysX fal dl [] mks exA w h K) {x : Str} {st : Stmt} (hd : (⟨(x, none), x, x, defArgs st, defBody st, defScope st, [], []⟩ : He.DefD) ∈ dl) : ∃ fd, L2.Fun K x x st (He.ga K x) fd := by
  obtain ⟨fd, ⟨⟨oc, od, dV, kV, doc, pm, an, cdv, ct, osl, e1, e2, e3, e4, e5⟩, kp⟩⟩ := He.SaysD.defs c.t.d hd
  have e4' : dV = .none := by
    rcases e4 with ⟨_, z⟩ | ⟨z, _⟩
    · exact z
    · exact absurd rfl z
  subst e4'
  exact ⟨fd, ⟨oc, od, kV, doc, pm, an, cdv, ct, osl, e1, e2, e3⟩, kp⟩
/-- a maker's code object -/
theorem code_of (c : He.SaysX fal dl [] mks exA w h K) {x : Str} {st : Stmt} {fd : FuncData} (F : L2.Fun K x x st (He.ga K x) fd) (oc : Value) (od : Option Addr) (dt : FuncData) (osl : Array (Option Value)) (lk : K.lookup (He.ga K x) = some ⟨oc, od, .func dt, osl⟩) : dt.code = .ref (He.cT K (x, none)).1 := by
  obtain ⟨⟨oc2, od2, kV, doc, pm, an, cdv, ct, osl2, e1, e2, e3⟩, _⟩ := F
  have e2' : K.lookup (He.ga K x) = some ⟨oc2, od2, .func fd, osl2⟩ := e2
  rw [e2'] at lk
  have hdt : fd = dt := by
    injection lk with z1
    injection z1 with _ _ z2 _
    injection z2
  rw [← hdt]
  obtain ⟨u, hu⟩ := He.codeIn_ref e3
  have hc : fd.code = .ref u := by rw [e1]; exact hu
  show fd.code = .ref (He.codeOf K (x, none))
  rw [He.codeOf_eq (p := (x, none)) e2' hc, hc]
theorem lam_in {P : Program} {w : World} {K : PySem.W.Frag} {mg : Str → Option Value} {base : Heap} {y : Str × Option Str} (hy : y ∈ mks) : ((He.cT K y).2, (y.1 ++ ".<locals>." ++ "<lambda>" : Str)) ∈ (gs P w K mg base).T := List.mem_map.mpr ⟨y, hy, rfl⟩
theorem lam_one {P : Program} {w : World} {h base : Heap} {K : PySem.W.Frag} {mg : Str → Option Value} (c : He.SaysX fal dl [] mks exA w h K) {y : Str × Option Str} (hy : y ∈ mks) : ∀ p ∈ (gs P w K mg base).T, p.1 = (He.cT K y).2 → p.2 = (y.1 ++ ".<locals>." ++ "<lambda>" : Str) := fun p hp e => by
  obtain ⟨z, hz, rfl⟩ := List.mem_map.mp hp
  have := mks_inj c hz hy e
  subst this
  rfl
theorem fx_of {P : Program} (KX : K.In h) (G : h.Ns mainGlobals mg) (c : He.SaysX fal dl [] mks exA w h K) : Fx (gs P w K mg base) where
  b_abs := He.free_ok KX G (He.SaysD.facts c.t.d (f := .free "abs") (by simp [fal]))
  b_all := He.free_ok KX G (He.SaysD.facts c.t.d (f := .free "all") (by simp [fal]))
  b_bool := He.free_ok KX G (He.SaysD.facts c.t.d (f := .free "bool") (by simp [fal]))
  b_int := He.free_ok KX G (He.SaysD.facts c.t.d (f := .free "int") (by simp [fal]))
  b_isinstance := He.free_ok KX G (He.SaysD.facts c.t.d (f := .free "isinstance") (by simp [fal]))
  b_len := He.free_ok KX G (He.SaysD.facts c.t.d (f := .free "len") (by simp [fal]))
  b_list := He.free_ok KX G (He.SaysD.facts c.t.d (f := .free "list") (by simp [fal]))
  b_min := He.free_ok KX G (He.SaysD.facts c.t.d (f := .free "min") (by simp [fal]))
  b_range := He.free_ok KX G (He.SaysD.facts c.t.d (f := .free "range") (by simp [fal]))
  b_repr := He.free_ok KX G (He.SaysD.facts c.t.d (f := .free "repr") (by simp [fal]))
  b_sorted := He.free_ok KX G (He.SaysD.facts c.t.d (f := .free "sorted") (by simp [fal]))
  b_str := He.free_ok KX G (He.SaysD.facts c.t.d (f := .free "str") (by simp [fal]))
  b_tuple := He.free_ok KX G (He.SaysD.facts c.t.d (f := .free "tuple") (by simp [fal]))
  b_zip := He.free_ok KX G (He.SaysD.facts c.t.d (f := .free "zip") (by simp [fal]))
  c_KEPT := by
    have hb := (He.ba (He.ba (exM_of c)).2).2
    obtain ⟨h1, h2⟩ := He.ba hb
    refine ⟨He.ga K "KEPT", He.glo_ok KX G (He.SaysD.facts c.t.d (f := .glo "KEPT") (by simp [fal])), fun ms H => .tcon (vs := ks_KEPT.map V.str) (fun H' => ⟨?_, ?_⟩) (rlA_strs _)⟩
    · have := He.tupB_ok h1 H'
      rw [List.map_map] at this
      exact this
    · unfold tupC at h2
      split at h2
      · rename_i o ho
        exact .kTuple ho (of_decide_eq_true h2)
      · cases h2
  c_MOST_NAMES := He.int_ok KX G (He.SaysD.facts c.t.d (f := .int "MOST_NAMES" 3) (by simp [fal]))
  c_MOST_NODES := He.int_ok KX G (He.SaysD.facts c.t.d (f := .int "MOST_NODES" 400) (by simp [fal]))
  c_SMALL := He.str_ok KX G (He.SaysD.facts c.t.d (f := .str "SMALL" "abcdefghijklmnopqrstuvwxyz") (by simp [fal]))
  f_node_at := He.glo_ok KX G (He.SaysD.facts c.t.d (f := .glo "node_at") (by simp [fal]))
  f_within := He.glo_ok KX G (He.SaysD.facts c.t.d (f := .glo "within") (by simp [fal]))
  k_BoughError := He.glo_ok KX G (He.SaysD.facts c.t.d (f := .glo "BoughError") (by simp [fal]))
  k_BadPlace := He.glo_ok KX G (He.SaysD.facts c.t.d (f := .glo "BadPlace") (by simp [fal]))
  k_BadWood := He.glo_ok KX G (He.SaysD.facts c.t.d (f := .glo "BadWood") (by simp [fal]))
  x_BoughError := by
    obtain ⟨e1, e2, e3, e4⟩ := He.exc_ok (He.SaysD.facts c.t.d (f := .exc "BoughError") (by simp [fal]))
    exact ⟨e1, He.glo_ok KX G (He.SaysD.facts c.t.d (f := .glo "BoughError") (by simp [fal])), e2, e3, e4⟩
  x_BadPlace := by
    obtain ⟨e1, e2, e3, e4⟩ := He.exc_ok (He.SaysD.facts c.t.d (f := .exc "BadPlace") (by simp [fal]))
    exact ⟨e1, He.glo_ok KX G (He.SaysD.facts c.t.d (f := .glo "BadPlace") (by simp [fal])), e2, e3, e4⟩
  x_BadWood := by
    obtain ⟨e1, e2, e3, e4⟩ := He.exc_ok (He.SaysD.facts c.t.d (f := .exc "BadWood") (by simp [fal]))
    exact ⟨e1, He.glo_ok KX G (He.SaysD.facts c.t.d (f := .glo "BadWood") (by simp [fal])), e2, e3, e4⟩
  tab := ⟨fun i j => (exT_at (exT_of c) i).2.2 j, fun i => (exT_at (exT_of c) i).1⟩
  catcher := by
    obtain ⟨fd, F⟩ := fun_of c (x := "_law_caught") (st := s_caught) (by simp [dl])
    refine ⟨⟨_, fd, s_caught, "_law_error", "caught", "BoughError", _, _, _, _, _, _, _, _, _, _, _, _, _, _, default, default, F, glo_of KX G c "_law_caught" (by simp [fal]), rfl, C8.fnScope_by (by decide +kernel), by kernel_rfl, by kernel_rfl, by kernel_rfl, by kernel_rfl, glo_of KX G c "BoughError" (by simp [fal]), by decide +kernel, by decide +kernel, by decide +kernel, by decide +kernel, by decide +kernel, by decide +kernel, by decide +kernel, fun _ _ _ _ _ _ us hl => match us, hl with | [_], _ => rfl⟩, fun i => (exT_at (exT_of c) i).2.1⟩
end
theorem ok_p_is_name {P : Program} {w : World} {h base : Heap} {K : PySem.W.Frag} {mg : Str → Option Value} (KX : K.In h) (G : h.Ns mainGlobals mg) (c : He.SaysX fal dl [] mks exA w h K) (TB : ∀ q ∈ mks.map (He.cT K), LamX.TabB base mg q.1 q.2) : DefOk (gs P w K mg base) 1 "is_name" s_p_is_name ps_p_is_name d_p_is_name := by
  obtain ⟨fd, F⟩ := fun_of c (x := "is_name") (st := s_p_is_name) (by simp [dl])
  exact defOk_of F (glo_of KX G c "is_name" (by simp [fal])) sc_p_is_name fun E => sim_p_is_name (fx_of KX G c)  E
theorem ok_p_are_names {P : Program} {w : World} {h base : Heap} {K : PySem.W.Frag} {mg : Str → Option Value} (KX : K.In h) (G : h.Ns mainGlobals mg) (c : He.SaysX fal dl [] mks exA w h K) (TB : ∀ q ∈ mks.map (He.cT K), LamX.TabB base mg q.1 q.2) : DefOk (gs P w K mg base) 2 "are_names" s_p_are_names ps_p_are_names d_p_are_names := by
  obtain ⟨fd, F⟩ := fun_of c (x := "are_names") (st := s_p_are_names) (by simp [dl])
  exact defOk_of F (glo_of KX G c "are_names" (by simp [fal])) sc_p_are_names fun E => sim_p_are_names (fx_of KX G c) (ok_p_is_name KX G c TB) E
theorem ok_p_is_scope {P : Program} {w : World} {h base : Heap} {K : PySem.W.Frag} {mg : Str → Option Value} (KX : K.In h) (G : h.Ns mainGlobals mg) (c : He.SaysX fal dl [] mks exA w h K) (TB : ∀ q ∈ mks.map (He.cT K), LamX.TabB base mg q.1 q.2) : DefOk (gs P w K mg base) 3 "is_scope" s_p_is_scope ps_p_is_scope d_p_is_scope := by
  obtain ⟨fd, F⟩ := fun_of c (x := "is_scope") (st := s_p_is_scope) (by simp [dl])
  exact defOk_of F (glo_of KX G c "is_scope" (by simp [fal])) sc_p_is_scope fun E => sim_p_is_scope (fx_of KX G c) (ok_p_are_names KX G c TB) E
theorem ok_p_is_number {P : Program} {w : World} {h base : Heap} {K : PySem.W.Frag} {mg : Str → Option Value} (KX : K.In h) (G : h.Ns mainGlobals mg) (c : He.SaysX fal dl [] mks exA w h K) (TB : ∀ q ∈ mks.map (He.cT K), LamX.TabB base mg q.1 q.2) : DefOk (gs P w K mg base) 1 "is_number" s_p_is_number ps_p_is_number d_p_is_number := by
  obtain ⟨fd, F⟩ := fun_of c (x := "is_number") (st := s_p_is_number) (by simp [dl])
  exact defOk_of F (glo_of KX G c "is_number" (by simp [fal])) sc_p_is_number fun E => sim_p_is_number (fx_of KX G c)  E
theorem ok_p_is_node {P : Program} {w : World} {h base : Heap} {K : PySem.W.Frag} {mg : Str → Option Value} (KX : K.In h) (G : h.Ns mainGlobals mg) (c : He.SaysX fal dl [] mks exA w h K) (TB : ∀ q ∈ mks.map (He.cT K), LamX.TabB base mg q.1 q.2) : DefOk (gs P w K mg base) 3 "is_node" s_p_is_node ps_p_is_node d_p_is_node := by
  obtain ⟨fd, F⟩ := fun_of c (x := "is_node") (st := s_p_is_node) (by simp [dl])
  exact defOk_of F (glo_of KX G c "is_node" (by simp [fal])) sc_p_is_node fun E => sim_p_is_node (fx_of KX G c) (ok_p_are_names KX G c TB) (ok_p_is_number KX G c TB) E
theorem ok_p_is_wood {P : Program} {w : World} {h base : Heap} {K : PySem.W.Frag} {mg : Str → Option Value} (KX : K.In h) (G : h.Ns mainGlobals mg) (c : He.SaysX fal dl [] mks exA w h K) (TB : ∀ q ∈ mks.map (He.cT K), LamX.TabB base mg q.1 q.2) : DefOk (gs P w K mg base) 4 "is_wood" s_p_is_wood ps_p_is_wood d_p_is_wood := by
  obtain ⟨fd, F⟩ := fun_of c (x := "is_wood") (st := s_p_is_wood) (by simp [dl])
  exact defOk_of F (glo_of KX G c "is_wood" (by simp [fal])) sc_p_is_wood fun E => sim_p_is_wood (fx_of KX G c) (ok_p_is_scope KX G c TB) (ok_p_is_node KX G c TB) E
theorem ok_p_need_wood {P : Program} {w : World} {h base : Heap} {K : PySem.W.Frag} {mg : Str → Option Value} (KX : K.In h) (G : h.Ns mainGlobals mg) (c : He.SaysX fal dl [] mks exA w h K) (TB : ∀ q ∈ mks.map (He.cT K), LamX.TabB base mg q.1 q.2) : DefOk (gs P w K mg base) 5 "need_wood" s_p_need_wood ps_p_need_wood d_p_need_wood := by
  obtain ⟨fd, F⟩ := fun_of c (x := "need_wood") (st := s_p_need_wood) (by simp [dl])
  exact defOk_of F (glo_of KX G c "need_wood" (by simp [fal])) sc_p_need_wood fun E => sim_p_need_wood (fx_of KX G c) (ok_p_is_wood KX G c TB) E
theorem ok_p_is_place {P : Program} {w : World} {h base : Heap} {K : PySem.W.Frag} {mg : Str → Option Value} (KX : K.In h) (G : h.Ns mainGlobals mg) (c : He.SaysX fal dl [] mks exA w h K) (TB : ∀ q ∈ mks.map (He.cT K), LamX.TabB base mg q.1 q.2) : DefOk (gs P w K mg base) 2 "is_place" s_p_is_place ps_p_is_place d_p_is_place := by
  obtain ⟨fd, F⟩ := fun_of c (x := "is_place") (st := s_p_is_place) (by simp [dl])
  exact defOk_of F (glo_of KX G c "is_place" (by simp [fal])) sc_p_is_place fun E => sim_p_is_place (fx_of KX G c) (ok_p_is_number KX G c TB) E
theorem ok_p_need_place {P : Program} {w : World} {h base : Heap} {K : PySem.W.Frag} {mg : Str → Option Value} (KX : K.In h) (G : h.Ns mainGlobals mg) (c : He.SaysX fal dl [] mks exA w h K) (TB : ∀ q ∈ mks.map (He.cT K), LamX.TabB base mg q.1 q.2) : DefOk (gs P w K mg base) 3 "need_place" s_p_need_place ps_p_need_place d_p_need_place := by
  obtain ⟨fd, F⟩ := fun_of c (x := "need_place") (st := s_p_need_place) (by simp [dl])
  exact defOk_of F (glo_of KX G c "need_place" (by simp [fal])) sc_p_need_place fun E => sim_p_need_place (fx_of KX G c) (ok_p_is_place KX G c TB) E
theorem ok_p_node_told {P : Program} {w : World} {h base : Heap} {K : PySem.W.Frag} {mg : Str → Option Value} (KX : K.In h) (G : h.Ns mainGlobals mg) (c : He.SaysX fal dl [] mks exA w h K) (TB : ∀ q ∈ mks.map (He.cT K), LamX.TabB base mg q.1 q.2) : DefOk (gs P w K mg base) 1 "node_told" s_p_node_told ps_p_node_told d_p_node_told := by
  obtain ⟨fd, F⟩ := fun_of c (x := "node_told") (st := s_p_node_told) (by simp [dl])
  exact defOk_of F (glo_of KX G c "node_told" (by simp [fal])) sc_p_node_told fun E => sim_p_node_told (fx_of KX G c)  E
theorem ok_p_node_at {P : Program} {w : World} {h base : Heap} {K : PySem.W.Frag} {mg : Str → Option Value} (KX : K.In h) (G : h.Ns mainGlobals mg) (c : He.SaysX fal dl [] mks exA w h K) (TB : ∀ q ∈ mks.map (He.cT K), LamX.TabB base mg q.1 q.2) : DefOk (gs P w K mg base) 6 "node_at" s_p_node_at ps_p_node_at d_p_node_at := by
  obtain ⟨fd, F⟩ := fun_of c (x := "node_at") (st := s_p_node_at) (by simp [dl])
  exact defOk_of F (glo_of KX G c "node_at" (by simp [fal])) sc_p_node_at fun E => sim_p_node_at (fx_of KX G c) (ok_p_need_wood KX G c TB) (ok_p_need_place KX G c TB) (ok_p_node_told KX G c TB) E
theorem ok_p_numbered {P : Program} {w : World} {h base : Heap} {K : PySem.W.Frag} {mg : Str → Option Value} (KX : K.In h) (G : h.Ns mainGlobals mg) (c : He.SaysX fal dl [] mks exA w h K) (TB : ∀ q ∈ mks.map (He.cT K), LamX.TabB base mg q.1 q.2) : DefOkL (gs P w K mg base) 2 "numbered" s_p_numbered ["scope", "first"] 1 d_p_numbered := by
  obtain ⟨fd, F⟩ := fun_of c (x := "numbered") (st := s_p_numbered) (by simp [dl])
  exact defOkL_of (ps := ["scope", "first"]) (pl := "row_of") F (glo_of KX G c "numbered" (by simp [fal])) sc_p_numbered (by decide) b_p_numbered fun fdl l E hi => sim_p_numbered (fx_of KX G c)  fdl l E hi
theorem ok_p_within {P : Program} {w : World} {h base : Heap} {K : PySem.W.Frag} {mg : Str → Option Value} (KX : K.In h) (G : h.Ns mainGlobals mg) (c : He.SaysX fal dl [] mks exA w h K) (TB : ∀ q ∈ mks.map (He.cT K), LamX.TabB base mg q.1 q.2) : DefOk (gs P w K mg base) 6 "within" s_p_within ps_p_within d_p_within := by
  obtain ⟨fd, F⟩ := fun_of c (x := "within") (st := s_p_within) (by simp [dl])
  exact defOk_ofM (u := (He.cT K ("within", none)).1) F (code_of c F) (glo_of KX G c "within" (by simp [fal])) sc_p_within fun E => sim_p_within (fx_of KX G c) (TB _ (List.mem_map.mpr ⟨("within", none), by simp [mks], rfl⟩)) (lam_in (y := ("within", none)) (by simp [mks])) (lam_one c (y := ("within", none)) (by simp [mks])) (ok_p_need_wood KX G c TB) (ok_p_need_place KX G c TB) (ok_p_node_told KX G c TB) (ok_p_numbered KX G c TB) E
theorem ok_begun {P : Program} {w : World} {h base : Heap} {K : PySem.W.Frag} {mg : Str → Option Value} (KX : K.In h) (G : h.Ns mainGlobals mg) (c : He.SaysX fal dl [] mks exA w h K) (TB : ∀ q ∈ mks.map (He.cT K), LamX.TabB base mg q.1 q.2) : DefOk (gs P w K mg base) 1 "_law_begun" s_begun ps_begun d_begun := by
  obtain ⟨fd, F⟩ := fun_of c (x := "_law_begun") (st := s_begun) (by simp [dl])
  exact defOk_of F (glo_of KX G c "_law_begun" (by simp [fal])) sc_begun fun E => sim_begun (fx_of KX G c)  E
theorem ok_mixed {P : Program} {w : World} {h base : Heap} {K : PySem.W.Frag} {mg : Str → Option Value} (KX : K.In h) (G : h.Ns mainGlobals mg) (c : He.SaysX fal dl [] mks exA w h K) (TB : ∀ q ∈ mks.map (He.cT K), LamX.TabB base mg q.1 q.2) : DefOk (gs P w K mg base) 1 "_law_mixed" s_mixed ps_mixed d_mixed := by
  obtain ⟨fd, F⟩ := fun_of c (x := "_law_mixed") (st := s_mixed) (by simp [dl])
  exact defOk_of F (glo_of KX G c "_law_mixed" (by simp [fal])) sc_mixed fun E => sim_mixed (fx_of KX G c)  E
theorem ok_take {P : Program} {w : World} {h base : Heap} {K : PySem.W.Frag} {mg : Str → Option Value} (KX : K.In h) (G : h.Ns mainGlobals mg) (c : He.SaysX fal dl [] mks exA w h K) (TB : ∀ q ∈ mks.map (He.cT K), LamX.TabB base mg q.1 q.2) : DefOk (gs P w K mg base) 2 "_law_take" s_take ps_take d_take := by
  obtain ⟨fd, F⟩ := fun_of c (x := "_law_take") (st := s_take) (by simp [dl])
  exact defOk_of F (glo_of KX G c "_law_take" (by simp [fal])) sc_take fun E => sim_take (fx_of KX G c) (ok_mixed KX G c TB) E
theorem ok_pick {P : Program} {w : World} {h base : Heap} {K : PySem.W.Frag} {mg : Str → Option Value} (KX : K.In h) (G : h.Ns mainGlobals mg) (c : He.SaysX fal dl [] mks exA w h K) (TB : ∀ q ∈ mks.map (He.cT K), LamX.TabB base mg q.1 q.2) : DefOk (gs P w K mg base) 3 "_law_pick" s_pick ps_pick d_pick := by
  obtain ⟨fd, F⟩ := fun_of c (x := "_law_pick") (st := s_pick) (by simp [dl])
  exact defOk_of F (glo_of KX G c "_law_pick" (by simp [fal])) sc_pick fun E => sim_pick (fx_of KX G c) (ok_take KX G c TB) E
theorem ok_shuffled {P : Program} {w : World} {h base : Heap} {K : PySem.W.Frag} {mg : Str → Option Value} (KX : K.In h) (G : h.Ns mainGlobals mg) (c : He.SaysX fal dl [] mks exA w h K) (TB : ∀ q ∈ mks.map (He.cT K), LamX.TabB base mg q.1 q.2) : DefOk (gs P w K mg base) 3 "_law_shuffled" s_shuffled ps_shuffled d_shuffled := by
  obtain ⟨fd, F⟩ := fun_of c (x := "_law_shuffled") (st := s_shuffled) (by simp [dl])
  exact defOk_of F (glo_of KX G c "_law_shuffled" (by simp [fal])) sc_shuffled fun E => sim_shuffled (fx_of KX G c) (ok_take KX G c TB) E
theorem ok_names {P : Program} {w : World} {h base : Heap} {K : PySem.W.Frag} {mg : Str → Option Value} (KX : K.In h) (G : h.Ns mainGlobals mg) (c : He.SaysX fal dl [] mks exA w h K) (TB : ∀ q ∈ mks.map (He.cT K), LamX.TabB base mg q.1 q.2) : DefOk (gs P w K mg base) 4 "_law_names" s_names ps_names d_names := by
  obtain ⟨fd, F⟩ := fun_of c (x := "_law_names") (st := s_names) (by simp [dl])
  exact defOk_of F (glo_of KX G c "_law_names" (by simp [fal])) sc_names fun E => sim_names (fx_of KX G c) (ok_pick KX G c TB) (ok_shuffled KX G c TB) E
theorem ok_scope {P : Program} {w : World} {h base : Heap} {K : PySem.W.Frag} {mg : Str → Option Value} (KX : K.In h) (G : h.Ns mainGlobals mg) (c : He.SaysX fal dl [] mks exA w h K) (TB : ∀ q ∈ mks.map (He.cT K), LamX.TabB base mg q.1 q.2) : DefOk (gs P w K mg base) 5 "_law_scope" s_scope ps_scope d_scope := by
  obtain ⟨fd, F⟩ := fun_of c (x := "_law_scope") (st := s_scope) (by simp [dl])
  exact defOk_of F (glo_of KX G c "_law_scope" (by simp [fal])) sc_scope fun E => sim_scope (fx_of KX G c) (ok_take KX G c TB) (ok_names KX G c TB) E
theorem ok_letters {P : Program} {w : World} {h base : Heap} {K : PySem.W.Frag} {mg : Str → Option Value} (KX : K.In h) (G : h.Ns mainGlobals mg) (c : He.SaysX fal dl [] mks exA w h K) (TB : ∀ q ∈ mks.map (He.cT K), LamX.TabB base mg q.1 q.2) : DefOk (gs P w K mg base) 1 "_law_letters" s_letters ps_letters d_letters := by
  obtain ⟨fd, F⟩ := fun_of c (x := "_law_letters") (st := s_letters) (by simp [dl])
  exact defOk_of F (glo_of KX G c "_law_letters" (by simp [fal])) sc_letters fun E => sim_letters (fx_of KX G c)  E
theorem ok_wood {P : Program} {w : World} {h base : Heap} {K : PySem.W.Frag} {mg : Str → Option Value} (KX : K.In h) (G : h.Ns mainGlobals mg) (c : He.SaysX fal dl [] mks exA w h K) (TB : ∀ q ∈ mks.map (He.cT K), LamX.TabB base mg q.1 q.2) : DefOk (gs P w K mg base) 4 "_law_wood" s_wood ps_wood d_wood := by
  obtain ⟨fd, F⟩ := fun_of c (x := "_law_wood") (st := s_wood) (by simp [dl])
  exact defOk_of F (glo_of KX G c "_law_wood" (by simp [fal])) sc_wood fun E => sim_wood (fx_of KX G c) (ok_take KX G c TB) (ok_pick KX G c TB) (ok_letters KX G c TB) E
theorem ok_at {P : Program} {w : World} {h base : Heap} {K : PySem.W.Frag} {mg : Str → Option Value} (KX : K.In h) (G : h.Ns mainGlobals mg) (c : He.SaysX fal dl [] mks exA w h K) (TB : ∀ q ∈ mks.map (He.cT K), LamX.TabB base mg q.1 q.2) : DefOk (gs P w K mg base) 1 "_law_at" s_at ps_at d_at := by
  obtain ⟨fd, F⟩ := fun_of c (x := "_law_at") (st := s_at) (by simp [dl])
  exact defOk_of F (glo_of KX G c "_law_at" (by simp [fal])) sc_at fun E => sim_at (fx_of KX G c)  E
theorem ok_numbered {P : Program} {w : World} {h base : Heap} {K : PySem.W.Frag} {mg : Str → Option Value} (KX : K.In h) (G : h.Ns mainGlobals mg) (c : He.SaysX fal dl [] mks exA w h K) (TB : ∀ q ∈ mks.map (He.cT K), LamX.TabB base mg q.1 q.2) : DefOk (gs P w K mg base) 1 "_law_numbered" s_numbered ps_numbered d_numbered := by
  obtain ⟨fd, F⟩ := fun_of c (x := "_law_numbered") (st := s_numbered) (by simp [dl])
  exact defOk_of F (glo_of KX G c "_law_numbered" (by simp [fal])) sc_numbered fun E => sim_numbered (fx_of KX G c)  E
theorem ok_place {P : Program} {w : World} {h base : Heap} {K : PySem.W.Frag} {mg : Str → Option Value} (KX : K.In h) (G : h.Ns mainGlobals mg) (c : He.SaysX fal dl [] mks exA w h K) (TB : ∀ q ∈ mks.map (He.cT K), LamX.TabB base mg q.1 q.2) : DefOk (gs P w K mg base) 3 "_law_place" s_place ps_place d_place := by
  obtain ⟨fd, F⟩ := fun_of c (x := "_law_place") (st := s_place) (by simp [dl])
  exact defOk_of F (glo_of KX G c "_law_place" (by simp [fal])) sc_place fun E => sim_place (fx_of KX G c) (ok_take KX G c TB) E
theorem ok_bad_wood {P : Program} {w : World} {h base : Heap} {K : PySem.W.Frag} {mg : Str → Option Value} (KX : K.In h) (G : h.Ns mainGlobals mg) (c : He.SaysX fal dl [] mks exA w h K) (TB : ∀ q ∈ mks.map (He.cT K), LamX.TabB base mg q.1 q.2) : DefOk (gs P w K mg base) 4 "_law_bad_wood" s_bad_wood ps_bad_wood d_bad_wood := by
  obtain ⟨fd, F⟩ := fun_of c (x := "_law_bad_wood") (st := s_bad_wood) (by simp [dl])
  exact defOk_of F (glo_of KX G c "_law_bad_wood" (by simp [fal])) sc_bad_wood fun E => sim_bad_wood (fx_of KX G c) (ok_pick KX G c TB) E
theorem ok_bad_place {P : Program} {w : World} {h base : Heap} {K : PySem.W.Frag} {mg : Str → Option Value} (KX : K.In h) (G : h.Ns mainGlobals mg) (c : He.SaysX fal dl [] mks exA w h K) (TB : ∀ q ∈ mks.map (He.cT K), LamX.TabB base mg q.1 q.2) : DefOk (gs P w K mg base) 4 "_law_bad_place" s_bad_place ps_bad_place d_bad_place := by
  obtain ⟨fd, F⟩ := fun_of c (x := "_law_bad_place") (st := s_bad_place) (by simp [dl])
  exact defOk_of F (glo_of KX G c "_law_bad_place" (by simp [fal])) sc_bad_place fun E => sim_bad_place (fx_of KX G c) (ok_pick KX G c TB) E
/-- the law is asked of a plain function -/
theorem law_at {w : World} {h : Heap} {K : PySem.W.Frag} {mg : Str → Option Value} (KX : K.In h) (G : h.Ns mainGlobals mg) (c : He.SaysX fal dl [] mks exA w h K)
    (good : ∀ ns : List Int, ns.length ≤ 63 → (∀ z ∈ ns, Builtin.Int.intBits z ≤ 1048576) → ∃ st', d_main [.lcon (ns.map D.int)] [] = some (.ok (.bl true), st')) : LawAt PySem.Challenge.rw_allboughs_k01_what_stands_at_places w K 63 mg (He.ga K "law") h := by
  refine ⟨mks.map (He.cT K), fun p hp => ?_, fun p hp => ?_, fun p hp => ?_, fun ns hl hb => ?_⟩
  · obtain ⟨y, hy, rfl⟩ := List.mem_map.mp hp
    exact c.empty _ hy
  · obtain ⟨y, hy, rfl⟩ := List.mem_map.mp hp
    exact c.out _ hy
  · obtain ⟨y, hy, rfl⟩ := List.mem_map.mp hp
    exact PySem.W.codeHd_of_K KX (c.hd _ hy)
  · obtain ⟨fd, F⟩ := fun_of c (x := "law") (st := s_main) (by simp [dl])
    refine law_run (g := gs PySem.Challenge.rw_allboughs_k01_what_stands_at_places.prog w K mg h) (k := 8) (N := N_main) (u := (He.cT K ("law", none)).1) F (code_of c F) sc_main ⟨rfl, by decide, by decide⟩ b_main (fun q hq => ?_) (fun E base TB => ?_) (good ns hl hb)
    · obtain ⟨y, hy, rfl⟩ := List.mem_map.mp hq
      exact ⟨(He.cT K y).1, List.mem_map.mpr ⟨y, hy, rfl⟩⟩
    · exact sim_main (g := gs PySem.Challenge.rw_allboughs_k01_what_stands_at_places.prog w K mg base) (fx_of KX G c) (TB _ (List.mem_map.mpr ⟨("law", none), by simp [mks], rfl⟩)) (lam_in (y := ("law", none)) (by simp [mks])) (lam_one c (y := ("law", none)) (by simp [mks])) (ok_p_node_at KX G c TB) (ok_p_within KX G c TB) (ok_begun KX G c TB) (ok_scope KX G c TB) (ok_wood KX G c TB) (ok_at KX G c TB) (ok_numbered KX G c TB) (ok_place KX G c TB) (ok_bad_wood KX G c TB) (ok_bad_place KX G c TB) E
end L_k01
open PySem PySem.W PySem.Calls PyProof.Rows
theorem L_k01.holds_of (good : ∀ ns : List Int, ns.length ≤ 63 → (∀ z ∈ ns, Builtin.Int.intBits z ≤ 1048576) → ∃ st', L_k01.d_main [.lcon (ns.map S3.D.int)] [] = some (.ok (.bl true), st')) : PySem.Challenge.rw_allboughs_k01_what_stands_at_places.Holds := by
  w_on; o_law
  refine HandSHeadRun.head_any (r := OpenLaw.row PySem.Challenge.rw_allboughs_k01_what_stands_at_places) (q := view (OpenLaw.row PySem.Challenge.rw_allboughs_k01_what_stands_at_places).prog [39]) (H := L_k01.hk) (ob := L_k01.ob) (M := 4000) (loose := L_k01.loose) (d := HandSHeadRun.topDef (OpenLaw.row PySem.Challenge.rw_allboughs_k01_what_stands_at_places).prog 39) (kwd := []) L_k01.ob_eq
    (by kernel_rfl) (fun s => by kernel_rfl) L_k01.run (by kernel_rfl) (by kernel_rfl) (by kernel_rfl) (by rfl) (by first | assumption | decide +kernel) (by decide +kernel) ⟨rfl, rfl, rfl, rfl, rfl, by decide +kernel⟩ ?hw ?hc
  case hw => w_witness2
  case hc =>
    refine S3.walk_go (l := PySem.Challenge.rw_allboughs_k01_what_stands_at_places) (n := 63) rfl (by decide) (by kernel_rfl) ?F
    intro w mg fa h Y G hmg0
    obtain ⟨K, KX, c⟩ := Y
    have e : (HandSHeadRun.topDef (OpenLaw.row PySem.Challenge.rw_allboughs_k01_what_stands_at_places).prog 39).name = ("law" : PySem.Str) := by kernel_rfl
    rw [e] at hmg0
    have e2 := hmg0.symm.trans (L_k01.glo_of KX G c "law" (by simp [L_k01.fal]))
    cases e2
    exact ⟨K, KX, L_k01.law_at KX G c good⟩

theorem PySem.Challenge.cw_allboughs_k01_what_stands_at_places_holds : PySem.Challenge.rw_allboughs_k01_what_stands_at_places.Holds := by
  exact L_k01.holds_of fun ns hl _ => S3.main5 L_k01.sd_main ns (L_k01.main_ok ns hl)
