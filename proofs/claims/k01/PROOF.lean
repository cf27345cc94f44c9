import PyProof.Rows.All
import Wide.All
import OpenK.AllK
import Wide.FinOn
import PySem.Challenge.RW_rowmint_k01_columns_and_rows
import HandS.ForMost
import HandS.Evl
import HandS.Walk
import HandS.Deep
import HandS.IsInst
import HandS.Zip
import HandS.Defaults
import HandS.TupAny
import HandS.Exc
import HandS.ExcOwn
import HandS.WordsExc
import KE.GoesEnum
import HandS.SetKeys
import PyProof.Rows.SetFrom
import HandS.More
import HandS.Style
import PyProof.P3Eq
import HandS.Ends
import HandS.Words
import HandS.Head0
import HandS.Head1
import HandS.Head2
import HandS.HeadEnd
import HandS.HeadHook1
import HandS.HeadHook2
set_option Elab.async false
set_option linter.all false
set_option maxRecDepth 100000
set_option maxHeartbeats 4000000
namespace DL
open PySem L2 Evl

/-- plain data -/
inductive D where
  | non | bl (b : Bool) | int (i : Int) | str (x : Str) | tup (ds : List D) | lst (ds : List D)

mutual
def Rep (K : PySem.W.Frag) (S : Hp) : D → V → Prop
  | .non, v => v = .non
  | .bl b, v => v = .bl b
  | .int i, v => v = .int i
  | .str x, v => v = .str x
  | .tup ds, v => ∃ a xs, v = .ref a ∧ SqT K S a xs ∧ RepL K S ds xs
  | .lst ds, v => ∃ a xs, v = .ref a ∧ SqL K S a xs ∧ RepL K S ds xs
def RepL (K : PySem.W.Frag) (S : Hp) : List D → List V → Prop
  | [], xs => xs = []
  | d :: ds, xs => ∃ x r, xs = x :: r ∧ Rep K S d x ∧ RepL K S ds r
end

mutual
theorem Rep.mono {K : PySem.W.Frag} {S S2 : Hp} (e : Ex S S2) : ∀ {d : D} {v : V}, Rep K S d v → Rep K S2 d v
  | .non, _, h => h
  | .bl _, _, h => h
  | .int _, _, h => h
  | .str _, _, h => h
  | .tup _, _, ⟨a, xs, e1, h1, h2⟩ => ⟨a, xs, e1, ex_t e h1, RepL.mono e h2⟩
  | .lst _, _, ⟨a, xs, e1, h1, h2⟩ => ⟨a, xs, e1, ex_l e h1, RepL.mono e h2⟩
theorem RepL.mono {K : PySem.W.Frag} {S S2 : Hp} (e : Ex S S2) : ∀ {ds : List D} {xs : List V}, RepL K S ds xs → RepL K S2 ds xs
  | [], _, h => h
  | _ :: _, _, ⟨x, r, e1, h1, h2⟩ => ⟨x, r, e1, Rep.mono e h1, RepL.mono e h2⟩
end
section
variable {K : PySem.W.Frag} {S : Hp}
theorem RepL.length : ∀ {ds : List D} {xs : List V}, RepL K S ds xs → xs.length = ds.length
  | [], _, h => by rw [show _ = [] from h]; rfl
  | _ :: ds, _, ⟨x, r, e1, _, h2⟩ => by rw [e1, List.length_cons, List.length_cons, RepL.length h2]
theorem RepL.get : ∀ {ds : List D} {xs : List V} {i : Nat} {d : D}, RepL K S ds xs → ds[i]? = some d → ∃ x, xs[i]? = some x ∧ Rep K S d x
  | [], _, _, _, _, h => by simp at h
  | _ :: _, _, 0, _, ⟨x, r, e1, h1, _⟩, h => ⟨x, by rw [e1]; rfl, by cases (Option.some.inj h); exact h1⟩
  | _ :: ds, _, i + 1, d, ⟨x, r, e1, _, h2⟩, h => by
    obtain ⟨y, hy, hr⟩ := RepL.get (i := i) (d := d) h2 (by simpa using h)
    exact ⟨y, by rw [e1]; simpa using hy, hr⟩
theorem RepL.get' : ∀ {ds : List D} {xs : List V} {i : Nat} {x : V}, RepL K S ds xs → xs[i]? = some x → ∃ d, ds[i]? = some d ∧ Rep K S d x
  | [], _, _, _, h, e => by rw [show _ = [] from h] at e; simp at e
  | d :: _, _, 0, _, ⟨x, r, e1, h1, _⟩, h => ⟨d, rfl, by rw [e1] at h; cases (Option.some.inj h); exact h1⟩
  | _ :: ds, _, i + 1, x, ⟨_, r, e1, _, h2⟩, h => by
    rw [e1] at h
    obtain ⟨y, hy, hr⟩ := RepL.get' (i := i) (x := x) h2 (by simpa using h)
    exact ⟨y, by simpa using hy, hr⟩
theorem RepL.append : ∀ {ds es : List D} {xs ys : List V}, RepL K S ds xs → RepL K S es ys → RepL K S (ds ++ es) (xs ++ ys)
  | [], _, _, _, h, g => by rw [show _ = [] from h]; exact g
  | _ :: _, _, _, _, ⟨x, r, e1, h1, h2⟩, g => ⟨x, r ++ _, by rw [e1]; rfl, h1, RepL.append h2 g⟩
theorem RepL.one {d : D} {x : V} (h : Rep K S d x) : RepL K S [d] [x] := ⟨x, [], rfl, h, rfl⟩
theorem RepL.cons {d : D} {x : V} {ds : List D} {xs : List V} (h : Rep K S d x) (t : RepL K S ds xs) : RepL K S (d :: ds) (x :: xs) := ⟨x, xs, rfl, h, t⟩
theorem RepL.nil : RepL K S [] [] := rfl
theorem RepL.set {d : D} {x : V} (h : Rep K S d x) : ∀ {ds : List D} {xs : List V} (i : Nat), RepL K S ds xs → RepL K S (ds.set i d) (xs.set i x)
  | [], _, _, g => by rw [show _ = [] from g]; exact RepL.nil
  | _ :: _, _, 0, ⟨_, r, e1, _, h2⟩ => by rw [e1]; exact RepL.cons h h2
  | _ :: _, _, i + 1, ⟨y, r, e1, h1, h2⟩ => by rw [e1]; exact RepL.cons h1 (RepL.set h i h2)
theorem RepL.take : ∀ {ds : List D} {xs : List V} (n : Nat), RepL K S ds xs → RepL K S (ds.take n) (xs.take n)
  | _, _, 0, _ => by simp [RepL]
  | [], _, _ + 1, g => by rw [show _ = [] from g]; exact RepL.nil
  | _ :: _, _, n + 1, ⟨y, r, e1, h1, h2⟩ => by rw [e1]; exact RepL.cons h1 (RepL.take n h2)
theorem RepL.drop : ∀ {ds : List D} {xs : List V} (n : Nat), RepL K S ds xs → RepL K S (ds.drop n) (xs.drop n)
  | _, _, 0, g => by simpa using g
  | [], _, _ + 1, g => by rw [show _ = [] from g]; exact RepL.nil
  | _ :: _, _, n + 1, ⟨y, r, e1, h1, h2⟩ => by rw [e1]; simpa using RepL.drop n h2
theorem RepL.reverse : ∀ {ds : List D} {xs : List V}, RepL K S ds xs → RepL K S ds.reverse xs.reverse
  | [], _, g => by rw [show _ = [] from g]; exact RepL.nil
  | _ :: _, _, ⟨y, r, e1, h1, h2⟩ => by
    rw [e1, List.reverse_cons, List.reverse_cons]
    exact (RepL.reverse h2).append (RepL.one h1)
end

/-! ### as the library's data -/
mutual
def D.py : D → PyData
  | .non => .none
  | .bl b => .bool b
  | .int i => .int i
  | .str x => .str x
  | .tup ds => .tuple (D.pys ds)
  | .lst ds => .list (D.pys ds)
def D.pys : List D → List PyData
  | [] => []
  | d :: ds => d.py :: D.pys ds
end
mutual
theorem Rep.dp {K : PySem.W.Frag} {S : Hp} : ∀ {d : D} {v : V}, Rep K S d v → Dp K S v d.py
  | .non, _, h => by rw [show _ = V.non from h]; exact .non
  | .bl b, _, h => by rw [show _ = V.bl b from h]; exact .bl b
  | .int b, _, h => by rw [show _ = V.int b from h]; exact .int b
  | .str b, _, h => by rw [show _ = V.str b from h]; exact .str b
  | .tup _, _, ⟨a, xs, e1, h1, h2⟩ => by rw [e1]; exact .tup h1 (RepL.dp h2)
  | .lst _, _, ⟨a, xs, e1, h1, h2⟩ => by rw [e1]; exact .lst h1 (RepL.dp h2)
theorem RepL.dp {K : PySem.W.Frag} {S : Hp} : ∀ {ds : List D} {xs : List V}, RepL K S ds xs → DpAll K S xs (D.pys ds)
  | [], _, h => by rw [show _ = [] from h]; exact .nil
  | _ :: _, _, ⟨x, r, e1, h1, h2⟩ => by rw [e1]; exact .cons (Rep.dp h1) (RepL.dp h2)
end

/-! ### what is owned: objects that may change -/
inductive MO where
  | gone | ml (ds : List D) | well | md (kvs : List (Key × D)) | lk (kvs : List (Key × D))
def RepKV (K : PySem.W.Frag) (S : Hp) : List (Key × D) → List (Key × V) → Prop
  | [], vs => vs = []
  | p :: r, vs => ∃ x t, vs = (p.1, x) :: t ∧ Rep K S p.2 x ∧ RepKV K S r t
theorem RepKV.mono {K : PySem.W.Frag} {S S2 : Hp} (e : Ex S S2) : ∀ {ds : List (Key × D)} {xs : List (Key × V)}, RepKV K S ds xs → RepKV K S2 ds xs
  | [], _, h => h
  | _ :: _, _, ⟨x, r, e1, h1, h2⟩ => ⟨x, r, e1, h1.mono e, RepKV.mono e h2⟩
theorem RepKV.length {K : PySem.W.Frag} {S : Hp} : ∀ {ds : List (Key × D)} {xs : List (Key × V)}, RepKV K S ds xs → xs.length = ds.length
  | [], _, h => by rw [show _ = [] from h]; rfl
  | _ :: _, _, ⟨x, r, e1, _, h2⟩ => by rw [e1, List.length_cons, List.length_cons, RepKV.length h2]
def HasO (K : PySem.W.Frag) (S H : Hp) (a : Addr) : MO → Prop
  | .gone => H a ≠ none
  | .ml ds => S a = none ∧ ∃ vs, H a = some (.lst vs) ∧ RepL K S ds vs
  | .well => S a = none ∧ ∃ x y c : Int, H a = some (.lst [.int x, .int y, .int c]) ∧ 0 ≤ y ∧ y < 4294967296 ∧ 0 < c ∧ c < 4294967296
  | .md kvs => S a = none ∧ ∃ vs, H a = some (.dK vs) ∧ RepKV K S kvs vs
  | .lk kvs => ∃ od vs, S a = some (.frz od (.dK vs)) ∧ H a = some (.frz od (.dK vs)) ∧ RepKV K S kvs vs
def OwnL (K : PySem.W.Frag) (S H : Hp) : List Addr → List MO → Prop
  | [], [] => True
  | a :: as, m :: ms => HasO K S H a m ∧ OwnL K S H as ms
  | _, _ => False
structure Ok (K : PySem.W.Frag) (S : Hp) (as : List Addr) (M : List MO) (H : Hp) : Prop where
  ex : Ex S H
  nd : as.Nodup
  own : OwnL K S H as M
structure Post (as : List Addr) (S H S2 H2 : Hp) : Prop where
  ex : Ex S S2
  keep : ∀ a o, H a = some o → a ∉ as → H2 a = some o
  dom : ∀ a, H a ≠ none → H2 a ≠ none
  new : ∀ a, S2 a ≠ none → S a = none → H a = none
theorem Post.refl {as : List Addr} {S H : Hp} : Post as S H S H := ⟨Ex.refl S, fun _ _ h _ => h, fun _ h => h, fun _ h1 h2 => absurd h2 h1⟩
theorem Post.trans {as : List Addr} {S H S1 H1 S2 H2 : Hp} (p : Post as S H S1 H1) (q : Post as S1 H1 S2 H2) : Post as S H S2 H2 where
  ex := p.ex.trans q.ex
  keep := fun a o h n => q.keep a o (p.keep a o h n) n
  dom := fun a h => q.dom a (p.dom a h)
  new := fun a h1 h2 => by
    cases e : S1 a with
    | some o => exact p.new a (by rw [e]; exact fun z => nomatch z) h2
    | none =>
      have h3 := q.new a h1 e
      cases g : H a with
      | none => rfl
      | some o => exact absurd h3 (p.dom a (by rw [g]; exact fun z => nomatch z))
theorem Post.sub {as as' : List Addr} {S H S2 H2 : Hp} (p : Post as S H S2 H2) (h : ∀ a ∈ as, a ∈ as') : Post as' S H S2 H2 :=
  ⟨p.ex, fun a o h1 n => p.keep a o h1 fun z => n (h a z), p.dom, p.new⟩
/-- grown owned ones: behind a statement that made new ones -/
theorem Post.grow {as ns : List Addr} {S H S1 H1 S2 H2 : Hp} (p : Post as S H S1 H1) (hn : ∀ a ∈ ns, H a = none) (q : Post (as ++ ns) S1 H1 S2 H2) : Post as S H S2 H2 where
  ex := p.ex.trans q.ex
  keep := fun a o h n => q.keep a o (p.keep a o h n) fun z => (List.mem_append.mp z).elim n fun z => by rw [hn a z] at h; cases h
  dom := fun a h => q.dom a (p.dom a h)
  new := fun a h1 h2 => by
    cases e : S1 a with
    | some o => exact p.new a (by rw [e]; exact fun z => nomatch z) h2
    | none =>
      have h3 := q.new a h1 e
      cases g : H a with
      | none => rfl
      | some o => exact absurd h3 (p.dom a (by rw [g]; exact fun z => nomatch z))

section
variable {K : PySem.W.Frag} {S S2 H H2 : Hp} {as : List Addr} {M : List MO}
/-- an owned object that was kept -/
theorem HasO.keep {a : Addr} {m : MO} (h : HasO K S H a m) (e : Ex S S2) (k : ∀ o, H a = some o → H2 a = some o) (n : S2 a ≠ none → S a = none → H a = none) : HasO K S2 H2 a m := by
  have free : ∀ o, S a = none → H a = some o → S2 a = none := fun o h1 h2 => by
    cases q : S2 a with
    | none => rfl
    | some u =>
      have := n (by rw [q]; exact fun z => nomatch z) h1
      rw [h2] at this; cases this
  cases m with
  | gone =>
    cases q : H a with
    | none => exact absurd q h
    | some o =>
      show H2 a ≠ none
      rw [k o q]; exact fun z => nomatch z
  | ml ds => obtain ⟨h1, vs, h2, h3⟩ := h; exact ⟨free _ h1 h2, vs, k _ h2, h3.mono e⟩
  | well => obtain ⟨h1, x, y, c, h2, h3⟩ := h; exact ⟨free _ h1 h2, x, y, c, k _ h2, h3⟩
  | md kvs => obtain ⟨h1, vs, h2, h3⟩ := h; exact ⟨free _ h1 h2, vs, k _ h2, h3.mono e⟩
  | lk kvs => obtain ⟨od, vs, h1, h2, h3⟩ := h; exact ⟨od, vs, e _ _ h1, k _ h2, h3.mono e⟩
theorem OwnL.keep (e : Ex S S2) : ∀ {as : List Addr} {M : List MO}, OwnL K S H as M → (∀ a ∈ as, ∀ o, H a = some o → H2 a = some o) → (∀ a ∈ as, S2 a ≠ none → S a = none → H a = none) → OwnL K S2 H2 as M
  | [], [], _, _, _ => trivial
  | [], _ :: _, h, _, _ => h.elim
  | _ :: _, [], h, _, _ => h.elim
  | a :: as, m :: ms, ⟨h1, h2⟩, k, n => ⟨h1.keep e (k a List.mem_cons_self) (n a List.mem_cons_self), OwnL.keep e h2 (fun b hb => k b (List.mem_cons_of_mem _ hb)) fun b hb => n b (List.mem_cons_of_mem _ hb)⟩
theorem OwnL.length : ∀ {as : List Addr} {M : List MO}, OwnL K S H as M → as.length = M.length
  | [], [], _ => rfl
  | [], _ :: _, h => h.elim
  | _ :: _, [], h => h.elim
  | a :: as, m :: ms, ⟨_, h2⟩ => by rw [List.length_cons, List.length_cons, OwnL.length h2]
theorem OwnL.get : ∀ {as : List Addr} {M : List MO} {k : Nat} {m : MO}, OwnL K S H as M → M[k]? = some m → ∃ a, as[k]? = some a ∧ HasO K S H a m
  | [], [], _, _, _, h => by simp at h
  | [], _ :: _, _, _, h, _ => h.elim
  | _ :: _, [], _, _, h, _ => h.elim
  | a :: as, m :: ms, 0, _, ⟨h1, _⟩, h => ⟨a, rfl, by cases (Option.some.inj h); exact h1⟩
  | a :: as, m :: ms, k + 1, m', ⟨_, h2⟩, h => by
    obtain ⟨b, hb, r⟩ := OwnL.get (k := k) (m := m') h2 (by simpa using h)
    exact ⟨b, by simpa using hb, r⟩
/-- one of them changed -/
theorem OwnL.upd {a : Addr} {m : MO} (e : Ex S S2) : ∀ {as : List Addr} {M : List MO} {k : Nat}, as.Nodup → OwnL K S H as M → as[k]? = some a → HasO K S2 H2 a m → (∀ b ∈ as, b ≠ a → ∀ o, H b = some o → H2 b = some o) →
      (∀ a ∈ as, S2 a ≠ none → S a = none → H a = none) → OwnL K S2 H2 as (M.set k m)
  | [], _, _, _, _, h, _, _, _ => by simp at h
  | _ :: _, [], _, _, h, _, _, _, _ => h.elim
  | b :: as, m0 :: ms, 0, nd, ⟨h1, h2⟩, h, hm, k, n => by
    cases (Option.some.inj h)
    refine ⟨hm, OwnL.keep e h2 (fun c hc => k c (List.mem_cons_of_mem _ hc) ?_) fun c hc => n c (List.mem_cons_of_mem _ hc)⟩
    rintro rfl
    exact (List.nodup_cons.mp nd).1 hc
  | b :: as, m0 :: ms, i + 1, nd, ⟨h1, h2⟩, h, hm, k, n => by
    have h' : as[i]? = some a := by simpa using h
    refine ⟨h1.keep e (k b List.mem_cons_self ?_) (n b List.mem_cons_self), OwnL.upd e (List.nodup_cons.mp nd).2 h2 h' hm (fun c hc => k c (List.mem_cons_of_mem _ hc)) fun c hc => n c (List.mem_cons_of_mem _ hc)⟩
    rintro rfl
    exact (List.nodup_cons.mp nd).1 (List.mem_of_getElem? h')
theorem Ok.mem (o : Ok K S as M H) {a : Addr} (ha : a ∈ as) : H a ≠ none := by
  obtain ⟨k, hk, rfl⟩ := List.mem_iff_getElem.mp ha
  have hl := o.own.length
  obtain ⟨b, hb, r⟩ := o.own.get (k := k) (m := M[k]'(by omega)) (by simp)
  rw [List.getElem?_eq_getElem hk] at hb
  cases (Option.some.inj hb)
  cases e : M[k]'(by omega) with
  | gone => rw [e] at r; exact r
  | ml ds => rw [e] at r; obtain ⟨_, vs, h2, _⟩ := r; rw [h2]; exact fun z => nomatch z
  | well => rw [e] at r; obtain ⟨_, x, y, c, h2, _⟩ := r; rw [h2]; exact fun z => nomatch z
  | md ds => rw [e] at r; obtain ⟨_, vs, h2, _⟩ := r; rw [h2]; exact fun z => nomatch z
  | lk ds => rw [e] at r; obtain ⟨_, vs, _, h2, _⟩ := r; rw [h2]; exact fun z => nomatch z
/-- a heap that only grew -/
theorem Ok.grew (o : Ok K S as M H) (e : Ex S S2) (e2 : Ex S2 H2) (k : Ex H H2) (n : ∀ a, S2 a ≠ none → S a = none → H a = none) : Ok K S2 as M H2 :=
  ⟨e2, o.nd, o.own.keep e (fun a _ u h => k a u h) fun a _ => n a⟩
theorem Post.grew (e : Ex S S2) (k : Ex H H2) (n : ∀ a, S2 a ≠ none → S a = none → H a = none) : Post as S H S2 H2 :=
  ⟨e, fun a o h _ => k a o h, fun a h => (by
    cases q : H a with
    | none => exact absurd q h
    | some u => rw [k a u q]; exact fun z => nomatch z), n⟩
/-- a new datum -/
theorem ex_upd2 {p : Addr} {o : HO} (e : Ex S H) (hp : H p = none) : Ex S (upd S p o) ∧ Ex (upd S p o) (upd H p o) ∧ Ex H (upd H p o) ∧ ∀ a, (upd S p o) a ≠ none → S a = none → H a = none := by
  have hs : S p = none := by
    cases q : S p with
    | none => rfl
    | some u => rw [e p u q] at hp; cases hp
  refine ⟨Ex.new hs, fun a u h => ?_, Ex.new hp, fun a h1 h2 => ?_⟩
  · by_cases ha : a = p
    · subst ha; rw [upd_same] at h ⊢; exact h
    · rw [upd_ne ha] at h ⊢; exact e a u h
  · by_cases ha : a = p
    · subst ha; exact hp
    · rw [upd_ne ha] at h1; exact absurd h2 h1
end

/-! ### slots -/
inductive Slot where
  | un | dat (d : D) | ptr (k : Nat)
def SlotR (K : PySem.W.Frag) (S : Hp) (as : List Addr) : Slot → Option V → Prop
  | .un, _ => True
  | .dat d, o => ∃ v, o = some v ∧ Rep K S d v
  | .ptr k, o => ∃ a, as[k]? = some a ∧ o = some (.ref a)
def EnvR (K : PySem.W.Frag) (S : Hp) (as : List Addr) : List Slot → L2.St → Prop
  | [], [] => True
  | s :: r, o :: q => SlotR K S as s o ∧ EnvR K S as r q
  | _, _ => False
section
variable {K : PySem.W.Frag} {S S2 : Hp} {as as2 : List Addr}
theorem SlotR.mono {s : Slot} {o : Option V} (h : SlotR K S as s o) (e : Ex S S2) (ha : ∀ (k : Nat) (a : Addr), as[k]? = some a → as2[k]? = some a) : SlotR K S2 as2 s o := by
  cases s with
  | un => trivial
  | dat d => obtain ⟨v, e1, r⟩ := h; exact ⟨v, e1, r.mono e⟩
  | ptr k => obtain ⟨a, e1, e2⟩ := h; exact ⟨a, ha k a e1, e2⟩
theorem EnvR.mono (e : Ex S S2) (ha : ∀ (k : Nat) (a : Addr), as[k]? = some a → as2[k]? = some a) : ∀ {env : List Slot} {σ : L2.St}, EnvR K S as env σ → EnvR K S2 as2 env σ
  | [], [], _ => trivial
  | [], _ :: _, h => h.elim
  | _ :: _, [], h => h.elim
  | _ :: _, _ :: _, ⟨h1, h2⟩ => ⟨h1.mono e ha, EnvR.mono e ha h2⟩
theorem EnvR.ex (e : Ex S S2) {env : List Slot} {σ : L2.St} (h : EnvR K S as env σ) : EnvR K S2 as env σ := h.mono e fun _ _ z => z
theorem EnvR.get : ∀ {env : List Slot} {σ : L2.St} {i : Nat} {s : Slot}, EnvR K S as env σ → env[i]? = some s → ∃ o, σ[i]? = some o ∧ SlotR K S as s o
  | [], [], _, _, _, h => by simp at h
  | [], _ :: _, _, _, h, _ => h.elim
  | _ :: _, [], _, _, h, _ => h.elim
  | _ :: _, _ :: _, 0, _, ⟨h1, h2⟩, h => ⟨_, rfl, by cases (Option.some.inj h); exact h1⟩
  | _ :: _, _ :: _, i + 1, s, ⟨h1, h2⟩, h => by
    obtain ⟨o, ho, r⟩ := EnvR.get (i := i) (s := s) h2 (by simpa using h)
    exact ⟨o, by simpa using ho, r⟩
theorem EnvR.set {s : Slot} {o : Option V} (hs : SlotR K S as s o) : ∀ {env : List Slot} {σ : L2.St} (i : Nat), EnvR K S as env σ → EnvR K S as (env.set i s) (σ.set i o)
  | [], [], _, _ => trivial
  | [], _ :: _, _, h => h.elim
  | _ :: _, [], _, h => h.elim
  | _ :: _, _ :: _, 0, ⟨h1, h2⟩ => ⟨hs, h2⟩
  | _ :: _, _ :: _, i + 1, ⟨h1, h2⟩ => ⟨h1, EnvR.set hs i h2⟩
theorem EnvR.un : ∀ {env : List Slot} {σ : L2.St} (i : Nat), EnvR K S as env σ → EnvR K S as (env.set i .un) σ
  | [], [], _, _ => trivial
  | [], _ :: _, _, h => h.elim
  | _ :: _, [], _, h => h.elim
  | _ :: _, _ :: _, 0, ⟨h1, h2⟩ => ⟨trivial, h2⟩
  | _ :: _, _ :: _, i + 1, ⟨h1, h2⟩ => ⟨h1, EnvR.un i h2⟩
/-- the slots of a comprehension forgotten -/
def wipeE (env : List Slot) : List Nat → List Slot
  | [] => env
  | v :: vs => (wipeE env vs).set v .un
theorem EnvR.wipe {env : List Slot} {σ : L2.St} (h : EnvR K S as env σ) : ∀ vs : List Nat, EnvR K S as (wipeE env vs) (L2.wipe σ vs)
  | [] => h
  | v :: vs => EnvR.set (s := .un) (o := none) trivial v (EnvR.wipe h vs)
end
end DL

set_option Elab.async false
set_option linter.all false
set_option maxRecDepth 100000
set_option maxHeartbeats 4000000
namespace DL
open PySem L2 Evl

/-- a rule by a stronger reading -/
theorem PE.imp {X : Cx} {e : Expr} {t t' : TE} (h : PE X e t) (w : ∀ σ H Q, t' σ H Q → t σ H Q) : PE X e t' := ⟨fun pins s σ H Q I q => h.run pins s σ H Q I (w σ H Q q)⟩
theorem PT.imp {X : Cx} {e : Expr} {t t' : TT} (h : PT X e t) (w : ∀ σ H Q, t' σ H Q → t σ H Q) : PT X e t' := ⟨fun pins s σ H Q I q => h.run pins s σ H Q I (w σ H Q q)⟩
theorem PW.imp {X : Cx} {e : Expr} {t t' : TT} (h : PW X e t) (w : ∀ σ H Q, t' σ H Q → t σ H Q) : PW X e t' := ⟨fun wh pins s σ H Q I q => h.run wh pins s σ H Q I (w σ H Q q)⟩
theorem PA.imp {X : Cx} {es : List Expr} {t t' : TA} (h : PA X es t) (w : ∀ σ H Q, t' σ H Q → t σ H Q) : PA X es t' := ⟨fun pos pins s σ H Q I q => h.run pos pins s σ H Q I (w σ H Q q)⟩
theorem PS.imp {X : Cx} {st : Stmt} {t t' : TS} (h : PS X st t) (w : ∀ D σ H, t' D σ H → t D σ H) : PS X st t' := ⟨fun pins s σ H D I q => h.run pins s σ H D I (w D σ H q)⟩
theorem PSs.imp {X : Cx} {st : List Stmt} {t t' : TS} (h : PSs X st t) (w : ∀ D σ H, t' D σ H → t D σ H) : PSs X st t' := ⟨fun pins s σ H D I q => h.run pins s σ H D I (w D σ H q)⟩
theorem PI.imp {X : Cx} {tg e : Expr} {t t' : TI} (h : PI X tg e t) (w : ∀ σ H Q, t' σ H Q → t σ H Q) : PI X tg e t' := ⟨fun pins s σ H Q I q => h.run pins s σ H Q I (w σ H Q q)⟩
theorem PTs.imp {X : Cx} {es : List Expr} {t t' : TT} (h : PTs X es t) (w : ∀ σ H Q, t' σ H Q → t σ H Q) : PTs X es t' := ⟨fun pins s σ H Q I q => h.run pins s σ H Q I (w σ H Q q)⟩
theorem PE.ex {ι : Sort _} {X : Cx} {e : Expr} {t : ι → TE} (h : ∀ i, PE X e (t i)) : PE X e (fun σ H Q => ∃ i, t i σ H Q) := ⟨fun pins s σ H Q I ⟨i, q⟩ => (h i).run pins s σ H Q I q⟩
theorem PTs.ex {ι : Sort _} {X : Cx} {e : List Expr} {t : ι → TT} (h : ∀ i, PTs X e (t i)) : PTs X e (fun σ H Q => ∃ i, t i σ H Q) := ⟨fun pins s σ H Q I ⟨i, q⟩ => (h i).run pins s σ H Q I q⟩
theorem PSs.ex {ι : Sort _} {X : Cx} {e : List Stmt} {t : ι → TS} (h : ∀ i, PSs X e (t i)) : PSs X e (fun D σ H => ∃ i, t i D σ H) := ⟨fun pins s σ H Q I ⟨i, q⟩ => (h i).run pins s σ H Q I q⟩

/-- what is wanted of an exception, by the slots -/
abbrev WK := L2.St → XK
/-- no exception -/
abbrev N0 : Value → Prop := fun _ => False
/-- an expression whose value is data of P, or that raises one of PX -/
def tP (K : PySem.W.Frag) (E : WK) (env : List Slot) (M : List MO) (P : D → Prop) (PX : Value → Prop) : TE := fun σ H Q =>
  ∃ S as, Ok K S as M H ∧ EnvR K S as env σ ∧ (∀ d v S2 H2, P d → Post as S H S2 H2 → Ok K S2 as M H2 → Rep K S2 d v → Q v H2) ∧
    (∀ c S2 H2, PX c → Post as S H S2 H2 → Ok K S2 as M H2 → E σ c none H2)
/-- .. whose value is a new object of one's own -/
def tN (K : PySem.W.Frag) (E : WK) (env : List Slot) (M : List MO) (P : MO → Prop) (PX : Value → Prop) : TE := fun σ H Q =>
  ∃ S as, Ok K S as M H ∧ EnvR K S as env σ ∧ (∀ m p S2 H2, P m → Post as S H S2 H2 → H p = none → Ok K S2 (as ++ [p]) (M ++ [m]) H2 → Q (.ref p) H2) ∧
    (∀ c S2 H2, PX c → Post as S H S2 H2 → Ok K S2 as M H2 → E σ c none H2)
def tT (K : PySem.W.Frag) (E : WK) (env : List Slot) (M : List MO) (P : Bool → Prop) (PX : Value → Prop) : TT := fun σ H Q =>
  ∃ S as, Ok K S as M H ∧ EnvR K S as env σ ∧ (∀ b S2 H2, P b → Post as S H S2 H2 → Ok K S2 as M H2 → Q b H2) ∧
    (∀ c S2 H2, PX c → Post as S H S2 H2 → Ok K S2 as M H2 → E σ c none H2)
def ArgR (K : PySem.W.Frag) (S : Hp) (as : List Addr) : List Slot → List V → Prop
  | [], vs => vs = []
  | s :: r, vs => ∃ v t, vs = v :: t ∧ SlotR K S as s (some v) ∧ ArgR K S as r t
def tA (K : PySem.W.Frag) (E : WK) (env : List Slot) (M : List MO) (P : List Slot → Prop) (PX : Value → Prop) : TA := fun σ H Q =>
  ∃ S as, Ok K S as M H ∧ EnvR K S as env σ ∧ (∀ sl vs S2 H2, P sl → Post as S H S2 H2 → Ok K S2 as M H2 → ArgR K S2 as sl vs → Q vs H2) ∧
    (∀ c S2 H2, PX c → Post as S H S2 H2 → Ok K S2 as M H2 → E σ c none H2)
abbrev EV (X : Cx) (E : WK) (env : List Slot) (M : List MO) (e : Expr) (P : D → Prop) (PX : Value → Prop) : Prop := PE X e (tP X.K E env M P PX)
abbrev NV (X : Cx) (E : WK) (env : List Slot) (M : List MO) (e : Expr) (P : MO → Prop) (PX : Value → Prop) : Prop := PE X e (tN X.K E env M P PX)
abbrev BV (X : Cx) (E : WK) (env : List Slot) (M : List MO) (e : Expr) (P : Bool → Prop) (PX : Value → Prop) : Prop := PT X e (tT X.K E env M P PX)
abbrev AV (X : Cx) (E : WK) (env : List Slot) (M : List MO) (es : List Expr) (P : List Slot → Prop) (PX : Value → Prop) : Prop := PA X es (tA X.K E env M P PX)

section
variable {K : PySem.W.Frag} {S S2 : Hp} {as as2 : List Addr}
theorem ArgR.mono (e : Ex S S2) (ha : ∀ (k : Nat) (a : Addr), as[k]? = some a → as2[k]? = some a) : ∀ {sl : List Slot} {vs : List V}, ArgR K S as sl vs → ArgR K S2 as2 sl vs
  | [], _, h => h
  | _ :: _, _, ⟨v, t, e1, h1, h2⟩ => ⟨v, t, e1, h1.mono e ha, ArgR.mono e ha h2⟩
theorem ArgR.length : ∀ {sl : List Slot} {vs : List V}, ArgR K S as sl vs → vs.length = sl.length
  | [], _, h => by rw [show _ = [] from h]; rfl
  | _ :: _, _, ⟨x, r, e1, _, h2⟩ => by rw [e1, List.length_cons, List.length_cons, ArgR.length h2]
theorem ArgR.dats : ∀ {ds : List D} {vs : List V}, ArgR K S as (ds.map .dat) vs → RepL K S ds vs
  | [], _, h => h
  | _ :: _, _, ⟨x, r, e1, ⟨v, e2, h1⟩, h2⟩ => by cases e2; exact ⟨x, r, e1, h1, ArgR.dats h2⟩
theorem ArgR.of : ∀ {ds : List D} {vs : List V}, RepL K S ds vs → ArgR K S as (ds.map .dat) vs
  | [], _, h => h
  | _ :: _, _, ⟨x, r, e1, h1, h2⟩ => ⟨x, r, e1, ⟨x, rfl, h1⟩, ArgR.of h2⟩
end

section
variable {X : Cx} {E : WK} {env : List Slot} {M : List MO} {P P' : D → Prop} {PX PX' : Value → Prop} {e a b : Expr} {pos : Pos}
theorem EV.mono (h : EV X E env M e P PX) (w : ∀ d, P d → P' d) (w2 : ∀ c, PX c → PX' c := by exact fun _ z => z) : EV X E env M e P' PX' :=
  PE.imp h fun σ H Q ⟨S, as, ok, en, k, x⟩ => ⟨S, as, ok, en, fun d v S2 H2 p => k d v S2 H2 (w d p), fun c S2 H2 p => x c S2 H2 (w2 c p)⟩
theorem EV.n0 (h : EV X E env M e P N0) : EV X E env M e P PX := h.mono (fun _ z => z) fun _ z => z.elim
theorem BV.mono {P P' : Bool → Prop} (h : BV X E env M e P PX) (w : ∀ d, P d → P' d) (w2 : ∀ c, PX c → PX' c := by exact fun _ z => z) : BV X E env M e P' PX' :=
  PT.imp h fun σ H Q ⟨S, as, ok, en, k, x⟩ => ⟨S, as, ok, en, fun d S2 H2 p => k d S2 H2 (w d p), fun c S2 H2 p => x c S2 H2 (w2 c p)⟩
theorem AV.mono {es : List Expr} {P P' : List Slot → Prop} (h : AV X E env M es P PX) (w : ∀ d, P d → P' d) (w2 : ∀ c, PX c → PX' c := by exact fun _ z => z) : AV X E env M es P' PX' :=
  PA.imp h fun σ H Q ⟨S, as, ok, en, k, x⟩ => ⟨S, as, ok, en, fun d v S2 H2 p => k d v S2 H2 (w d p), fun c S2 H2 p => x c S2 H2 (w2 c p)⟩

/-! ### names, constants -/
theorem e_slot {i : Nat} {d : D} (h : PE X e (tVar i)) (he : env[i]? = some (.dat d)) : EV X E env M e (· = d) PX :=
  PE.imp h fun σ H Q ⟨S, as, ok, en, k, x⟩ => by
    obtain ⟨o, ho, v, e2, r⟩ := en.get he
    subst e2
    exact ⟨v, ho, k d v S H rfl Post.refl ok r⟩
theorem e_const {d : D} {v : V} (h : PE X e (tC v)) (hr : ∀ S, Rep X.K S d v) : EV X E env M e (· = d) PX :=
  PE.imp h fun σ H Q ⟨S, as, ok, en, k, x⟩ => k d v S H rfl Post.refl ok (hr S)
theorem e_int {i : Int} {j} : EV X E env M (.Constant (.int i) j pos) (· = .int i) PX := e_const pe_int fun _ => rfl
theorem e_bl {i : Bool} {j} : EV X E env M (.Constant (.bool i) j pos) (· = .bl i) PX := e_const pe_bl fun _ => rfl
theorem e_non {j} : EV X E env M (.Constant .none j pos) (· = .non) PX := e_const pe_non fun _ => rfl
theorem e_str {x : Str} {j} : EV X E env M (.Constant (.str x) j pos) (· = .str x) PX := e_const pe_str fun _ => rfl

/-! ### the parts that rules are made of -/
/-- a new value over S and H -/
def Gives (K : PySem.W.Frag) (S H : Hp) (P : D → Prop) (Q : VK) : Prop :=
  ∀ d v S2 H2, P d → Ex S S2 → Ex S2 H2 → Ex H H2 → (∀ a, S2 a ≠ none → S a = none → H a = none) → Rep K S2 d v → Q v H2
theorem Gives.here {K : PySem.W.Frag} {S H : Hp} {P : D → Prop} {Q : VK} (g : Gives K S H P Q) (e : Ex S H) {d : D} {v : V} (p : P d) (r : Rep K S d v) : Q v H :=
  g d v S H p (Ex.refl S) e (Ex.refl H) (fun _ h1 h2 => absurd h2 h1) r
/-- a new tuple, a new list -/
theorem Gives.tup {K : PySem.W.Frag} {S H : Hp} {P : D → Prop} {Q : VK} (g : Gives K S H P Q) (e : Ex S H) {ds : List D} {xs : List V} {p : Addr} (hp : H p = none) (q : P (.tup ds)) (r : RepL K S ds xs) : Q (.ref p) (upd H p (.tup xs)) := by
  obtain ⟨e1, e2, e3, e4⟩ := ex_upd2 (o := .tup xs) e hp
  exact g _ _ _ _ q e1 e2 e3 e4 ⟨p, xs, rfl, st_of upd_same, r.mono e1⟩
theorem Gives.lst {K : PySem.W.Frag} {S H : Hp} {P : D → Prop} {Q : VK} (g : Gives K S H P Q) (e : Ex S H) {ds : List D} {xs : List V} {p : Addr} (hp : H p = none) (q : P (.lst ds)) (r : RepL K S ds xs) : Q (.ref p) (upd H p (.lst xs)) := by
  obtain ⟨e1, e2, e3, e4⟩ := ex_upd2 (o := .lst xs) e hp
  exact g _ _ _ _ q e1 e2 e3 e4 ⟨p, xs, rfl, sq_of upd_same, r.mono e1⟩
theorem tP.gives {K : PySem.W.Frag} {S H : Hp} {as : List Addr} {Q : VK} {S0 H0 : Hp} (ok : Ok K S as M H) (p0 : Post as S0 H0 S H)
    (k : ∀ d v S2 H2, P d → Post as S0 H0 S2 H2 → Ok K S2 as M H2 → Rep K S2 d v → Q v H2) : Gives K S H P Q := fun d v S2 H2 p e1 e2 e3 n r =>
  k d v S2 H2 p (p0.trans (Post.grew e1 e3 n)) (ok.grew e1 e2 e3 n) r
/-- what an operator tells of data -/
def Bin (K : PySem.W.Frag) (r : R2) (da db : D) (P : D → Prop) : Prop := ∀ S H x y (Q : VK), Ex S H → Rep K S da x → Rep K S db y → Gives K S H P Q → r x y H Q
def Una (K : PySem.W.Frag) (r : V → Hp → VK → Prop) (da : D) (P : D → Prop) : Prop := ∀ S H x (Q : VK), Ex S H → Rep K S da x → Gives K S H P Q → r x H Q
def Fnc (K : PySem.W.Frag) (r : List V → Hp → VK → Prop) (ds : List D) (P : D → Prop) : Prop := ∀ S H xs (Q : VK), Ex S H → RepL K S ds xs → Gives K S H P Q → r xs H Q
theorem bin_read {r : R2} {Pa Pb : D → Prop} {ta tb : TE} {σ : L2.St} {H : Hp} {Q : VK} {K : PySem.W.Frag} (ha : ∀ Q, tP K E env M Pa PX σ H Q → ta σ H Q) (hb : ∀ H Q, tP K E env M Pb PX σ H Q → tb σ H Q)
    (h : ∀ da db, Pa da → Pb db → Bin K r da db P) (q : tP K E env M P PX σ H Q) : tOp r ta tb σ H Q := by
  obtain ⟨S, as, ok, en, k, x⟩ := q
  refine ha _ ⟨S, as, ok, en, fun da v S1 H1 pa p1 ok1 r1 => ?_, x⟩
  refine hb H1 _ ⟨S1, as, ok1, en.ex p1.ex, fun db u S2 H2 pb p2 ok2 r2 => ?_, fun c S2 H2 pc p2 => x c S2 H2 pc (p1.trans p2)⟩
  exact h da db pa pb S2 H2 v u Q ok2.ex (r1.mono p2.ex) r2 (tP.gives ok2 (p1.trans p2) k)
theorem e_op {op : Operator} {r : R2} {Pa Pb : D → Prop} (ho : OpR X (binaryOp op) r) (ha : EV X E env M a Pa PX) (hb : EV X E env M b Pb PX) (h : ∀ da db, Pa da → Pb db → Bin X.K r da db P) : EV X E env M (.BinOp a op b pos) P PX :=
  PE.imp (pe_op ho ha hb) fun σ H Q q => bin_read (fun _ z => z) (fun _ _ z => z) h q
theorem e_cmp {op : CmpOp} {r : R2} {Pa Pb : D → Prop} (ho : OpR X (compareOp op) r) (ha : EV X E env M a Pa PX) (hb : EV X E env M b Pb PX) (hm : behindInMarks op b = false) (h : ∀ da db, Pa da → Pb db → Bin X.K r da db P) : EV X E env M (.Compare a [op] [b] pos) P PX :=
  PE.imp (pe_cmpR ho ha hb hm) fun σ H Q q => bin_read (fun _ z => z) (fun _ _ z => z) h q
/-- a bool's reading as a test -/
theorem test_read {P : Bool → Prop} {te : TE} {σ : L2.St} {H : Hp} {Q : Bool → Hp → Prop} {K : PySem.W.Frag} (ha : ∀ Q, tP K E env M (fun d => ∃ c, d = .bl c ∧ P c) PX σ H Q → te σ H Q) (q : tT K E env M P PX σ H Q) : tTest te σ H Q := by
  obtain ⟨S, as, ok, en, k, x⟩ := q
  refine ha _ ⟨S, as, ok, en, fun d v S1 H1 p p1 ok1 r1 => ?_, x⟩
  obtain ⟨c, rfl, pc⟩ := p
  exact ⟨c, r1, k c S1 H1 pc p1 ok1⟩
theorem b_cmp {op : CmpOp} {r : R2} {Pa Pb : D → Prop} {P : Bool → Prop} (ho : OpR X (compareOp op) r) (ha : EV X E env M a Pa PX) (hb : EV X E env M b Pb PX) (hm : behindInMarks op b = false)
    (h : ∀ da db, Pa da → Pb db → Bin X.K r da db (fun d => ∃ c, d = .bl c ∧ P c)) : BV X E env M (.Compare a [op] [b] pos) P PX :=
  PT.imp (pt_cmpR ho ha hb hm) fun σ H Q q => test_read (fun _ z => bin_read (fun _ z => z) (fun _ _ z => z) h z) q
theorem b_val {P : Bool → Prop} (h : EV X E env M e (fun d => ∃ c, d = .bl c ∧ P c) PX) (he : ∀ whole, isTrue e X.env whole = (do let v ← whole; standAt e.pos; holding [v] (truthy v)) := by intro _; rfl) : BV X E env M e P PX :=
  PT.imp (pt_val h he) fun σ H Q q => test_read (fun _ z => z) q
theorem e_un {op : UnaryOp} {r : V → Hp → VK → Prop} {Pa : D → Prop} (ho : UnR X (unaryOp op) r) (ha : EV X E env M a Pa PX) (h : ∀ da, Pa da → Una X.K r da P) : EV X E env M (.UnaryOp op a pos) P PX :=
  PE.imp (pe_un ho ha) fun σ H Q ⟨S, as, ok, en, k, x⟩ => ⟨S, as, ok, en, fun da v S1 H1 pa p1 ok1 r1 => h da pa S1 H1 v Q ok1.ex r1 (tP.gives ok1 p1 k), x⟩

/-! ### and, or, not -/
variable {rest : List Expr}
theorem b_and1 {P : Bool → Prop} (h : BV X E env M a P PX) : PW X (.BoolOp .And [a] pos) (tT X.K E env M P PX) := pw_and1 h
theorem b_or1 {P : Bool → Prop} (h : BV X E env M a P PX) : PW X (.BoolOp .Or [a] pos) (tT X.K E env M P PX) := pw_or1 h
theorem b_and {P P1 : Bool → Prop} (ha : BV X E env M a P1 PX) (hb : P1 true → PW X (.BoolOp .And (b :: rest) pos) (tT X.K E env M P PX)) (hf : P1 false → P false) : PW X (.BoolOp .And (a :: b :: rest) pos) (tT X.K E env M P PX) := by
  by_cases h1 : P1 true
  · refine PW.imp (pw_and ha (hb h1)) fun σ H Q ⟨S, as, ok, en, k, x⟩ => ⟨S, as, ok, en, fun c S1 H1 p p1 ok1 => ?_, x⟩
    cases c with
    | true => exact iteT ⟨S1, as, ok1, en.ex p1.ex, fun c S2 H2 p p2 => k c S2 H2 p (p1.trans p2), fun c S2 H2 p p2 => x c S2 H2 p (p1.trans p2)⟩
    | false => exact iteF (k false S1 H1 (hf p) p1 ok1)
  · refine PW.imp (pw_and ha (tB' := fun _ _ _ => False) ⟨fun _ _ _ _ _ _ _ z => z.elim⟩) fun σ H Q ⟨S, as, ok, en, k, x⟩ => ⟨S, as, ok, en, fun c S1 H1 p p1 ok1 => ?_, x⟩
    cases c with
    | true => exact absurd p h1
    | false => exact iteF (k false S1 H1 (hf p) p1 ok1)
theorem b_or {P P1 : Bool → Prop} (ha : BV X E env M a P1 PX) (hb : P1 false → PW X (.BoolOp .Or (b :: rest) pos) (tT X.K E env M P PX)) (hf : P1 true → P true) : PW X (.BoolOp .Or (a :: b :: rest) pos) (tT X.K E env M P PX) := by
  by_cases h1 : P1 false
  · refine PW.imp (pw_or ha (hb h1)) fun σ H Q ⟨S, as, ok, en, k, x⟩ => ⟨S, as, ok, en, fun c S1 H1 p p1 ok1 => ?_, x⟩
    cases c with
    | false => exact iteF ⟨S1, as, ok1, en.ex p1.ex, fun c S2 H2 p p2 => k c S2 H2 p (p1.trans p2), fun c S2 H2 p p2 => x c S2 H2 p (p1.trans p2)⟩
    | true => exact iteT (k true S1 H1 (hf p) p1 ok1)
  · refine PW.imp (pw_or ha (tB' := fun _ _ _ => False) ⟨fun _ _ _ _ _ _ _ z => z.elim⟩) fun σ H Q ⟨S, as, ok, en, k, x⟩ => ⟨S, as, ok, en, fun c S1 H1 p p1 ok1 => ?_, x⟩
    cases c with
    | false => exact absurd p h1
    | true => exact iteT (k true S1 H1 (hf p) p1 ok1)
theorem b_not {P : Bool → Prop} (ha : BV X E env M a (fun c => P (!c)) PX) : BV X E env M (.UnaryOp .Not a pos) P PX :=
  PT.imp (pt_not ha) fun σ H Q ⟨S, as, ok, en, k, x⟩ => ⟨S, as, ok, en, fun c S1 H1 p p1 ok1 => k (!c) S1 H1 p p1 ok1, x⟩
/-- as values: bools -/
theorem e_one {op} (h : EV X E env M a P PX) : EV X E env M (.BoolOp op [a] pos) P PX := pe_one h
theorem e_and {P1 : Bool → Prop} (ha : EV X E env M a (fun d => ∃ c, d = .bl c ∧ P1 c) PX) (hb : P1 true → EV X E env M (.BoolOp .And (b :: rest) pos) P PX) (hf : P1 false → P (.bl false)) : EV X E env M (.BoolOp .And (a :: b :: rest) pos) P PX := by
  by_cases h1 : P1 true
  · refine PE.imp (pe_and ha (hb h1)) fun σ H Q ⟨S, as, ok, en, k, x⟩ => ⟨S, as, ok, en, fun d v S1 H1 p p1 ok1 r1 => ?_, x⟩
    obtain ⟨c, rfl, p⟩ := p
    refine ⟨c, r1, ?_⟩
    cases c with
    | true => exact iteT ⟨S1, as, ok1, en.ex p1.ex, fun d v S2 H2 p p2 => k d v S2 H2 p (p1.trans p2), fun c S2 H2 p p2 => x c S2 H2 p (p1.trans p2)⟩
    | false => exact iteF (k _ _ S1 H1 (hf p) p1 ok1 rfl)
  · refine PE.imp (pe_and ha (tb := fun _ _ _ => False) ⟨fun _ _ _ _ _ _ z => z.elim⟩) fun σ H Q ⟨S, as, ok, en, k, x⟩ => ⟨S, as, ok, en, fun d v S1 H1 p p1 ok1 r1 => ?_, x⟩
    obtain ⟨c, rfl, p⟩ := p
    refine ⟨c, r1, ?_⟩
    cases c with
    | true => exact absurd p h1
    | false => exact iteF (k _ _ S1 H1 (hf p) p1 ok1 rfl)
theorem e_or {P1 : Bool → Prop} (ha : EV X E env M a (fun d => ∃ c, d = .bl c ∧ P1 c) PX) (hb : P1 false → EV X E env M (.BoolOp .Or (b :: rest) pos) P PX) (hf : P1 true → P (.bl true)) : EV X E env M (.BoolOp .Or (a :: b :: rest) pos) P PX := by
  by_cases h1 : P1 false
  · refine PE.imp (pe_or ha (hb h1)) fun σ H Q ⟨S, as, ok, en, k, x⟩ => ⟨S, as, ok, en, fun d v S1 H1 p p1 ok1 r1 => ?_, x⟩
    obtain ⟨c, rfl, p⟩ := p
    refine ⟨c, r1, ?_⟩
    cases c with
    | false => exact iteF ⟨S1, as, ok1, en.ex p1.ex, fun d v S2 H2 p p2 => k d v S2 H2 p (p1.trans p2), fun c S2 H2 p p2 => x c S2 H2 p (p1.trans p2)⟩
    | true => exact iteT (k _ _ S1 H1 (hf p) p1 ok1 rfl)
  · refine PE.imp (pe_or ha (tb := fun _ _ _ => False) ⟨fun _ _ _ _ _ _ z => z.elim⟩) fun σ H Q ⟨S, as, ok, en, k, x⟩ => ⟨S, as, ok, en, fun d v S1 H1 p p1 ok1 r1 => ?_, x⟩
    obtain ⟨c, rfl, p⟩ := p
    refine ⟨c, r1, ?_⟩
    cases c with
    | false => exact absurd p h1
    | true => exact iteT (k _ _ S1 H1 (hf p) p1 ok1 rfl)
theorem e_not {P1 : Bool → Prop} (ha : EV X E env M a (fun d => ∃ c, d = .bl c ∧ P1 c) PX) (h : ∀ c, P1 c → P (.bl (!c))) : EV X E env M (.UnaryOp .Not a pos) P PX :=
  PE.imp (pe_not ha) fun σ H Q ⟨S, as, ok, en, k, x⟩ => ⟨S, as, ok, en, fun d v S1 H1 p p1 ok1 r1 => by
    obtain ⟨c, rfl, p⟩ := p
    exact ⟨c, r1, k _ _ S1 H1 (h c p) p1 ok1 rfl⟩, x⟩
theorem e_if {P1 : Bool → Prop} {c : Expr} (hc : BV X E env M c P1 PX) (ha : P1 true → EV X E env M a P PX) (hb : P1 false → EV X E env M b P PX) : EV X E env M (.IfExp c a b pos) P PX := by
  have A : ∃ ta, PE X a ta ∧ (P1 true → ta = tP X.K E env M P PX) := by
    by_cases h : P1 true
    · exact ⟨_, ha h, fun _ => rfl⟩
    · exact ⟨fun _ _ _ => False, ⟨fun _ _ _ _ _ _ z => z.elim⟩, fun z => absurd z h⟩
  have B : ∃ tb, PE X b tb ∧ (P1 false → tb = tP X.K E env M P PX) := by
    by_cases h : P1 false
    · exact ⟨_, hb h, fun _ => rfl⟩
    · exact ⟨fun _ _ _ => False, ⟨fun _ _ _ _ _ _ z => z.elim⟩, fun z => absurd z h⟩
  obtain ⟨ta, ha, ea⟩ := A
  obtain ⟨tb, hb, eb⟩ := B
  refine PE.imp (pe_ifExp hc ha hb) fun σ H Q ⟨S, as, ok, en, k, x⟩ => ⟨S, as, ok, en, fun d S1 H1 p p1 ok1 => ?_, x⟩
  cases d with
  | true =>
    rw [ea p]
    exact iteT ⟨S1, as, ok1, en.ex p1.ex, fun d v S2 H2 p p2 => k d v S2 H2 p (p1.trans p2), fun c S2 H2 p p2 => x c S2 H2 p (p1.trans p2)⟩
  | false =>
    rw [eb p]
    exact iteF ⟨S1, as, ok1, en.ex p1.ex, fun d v S2 H2 p p2 => k d v S2 H2 p (p1.trans p2), fun c S2 H2 p p2 => x c S2 H2 p (p1.trans p2)⟩

/-! ### arguments -/
variable {es : List Expr}
theorem a_nil : AV X E env M [] (· = []) PX :=
  PA.imp pa_nil fun σ H Q ⟨S, as, ok, en, k, x⟩ => k [] [] S H rfl Post.refl ok rfl
theorem a_cons {P1 : D → Prop} {P2 : List Slot → Prop} (ha : EV X E env M a P1 PX) (hr : AV X E env M es P2 PX) (hs : starEach (a :: es) X.env = (false, eval a X.env) :: starEach es X.env := by rfl) :
    AV X E env M (a :: es) (fun sl => ∃ d r, sl = .dat d :: r ∧ P1 d ∧ P2 r) PX :=
  PA.imp (pa_cons ha hr hs) fun σ H Q ⟨S, as, ok, en, k, x⟩ => ⟨S, as, ok, en, fun d v S1 H1 pd p1 ok1 r1 =>
    ⟨S1, as, ok1, en.ex p1.ex, fun sl vs S2 H2 ps p2 ok2 r2 => k (.dat d :: sl) (v :: vs) S2 H2 ⟨d, sl, rfl, pd, ps⟩ (p1.trans p2) ok2 ⟨v, vs, rfl, ⟨v, rfl, r1.mono p2.ex⟩, r2⟩, fun c S2 H2 p p2 => x c S2 H2 p (p1.trans p2)⟩, x⟩
/-- a pointer handed on -/
theorem a_ptr {i k : Nat} {P2 : List Slot → Prop} (h : PE X a (tVar i)) (he : env[i]? = some (.ptr k)) (hr : AV X E env M es P2 PX) (hs : starEach (a :: es) X.env = (false, eval a X.env) :: starEach es X.env := by rfl) :
    AV X E env M (a :: es) (fun sl => ∃ r, sl = .ptr k :: r ∧ P2 r) PX :=
  PA.imp (pa_cons h hr hs) fun σ H Q ⟨S, as, ok, en, kk, x⟩ => by
    obtain ⟨o, ho, b, hb, e2⟩ := en.get he
    subst e2
    exact ⟨.ref b, ho, S, as, ok, en, fun sl vs S2 H2 ps p2 ok2 r2 => kk (.ptr k :: sl) (.ref b :: vs) S2 H2 ⟨sl, rfl, ps⟩ p2 ok2 ⟨.ref b, vs, rfl, ⟨b, hb, rfl⟩, r2⟩, x⟩
/-- data alone -/
abbrev dats (P : List D → Prop) : List Slot → Prop := fun sl => ∃ ds : List D, sl = ds.map .dat ∧ P ds
abbrev DV (X : Cx) (E : WK) (env : List Slot) (M : List MO) (es : List Expr) (P : List D → Prop) (PX : Value → Prop) : Prop := AV X E env M es (dats P) PX
theorem d_nil : DV X E env M [] (· = []) PX := AV.mono a_nil fun sl h => ⟨[], h, rfl⟩
theorem d_cons {P1 : D → Prop} {P2 : List D → Prop} (ha : EV X E env M a P1 PX) (hr : DV X E env M es P2 PX) (hs : starEach (a :: es) X.env = (false, eval a X.env) :: starEach es X.env := by rfl) :
    DV X E env M (a :: es) (fun l => ∃ d r, l = d :: r ∧ P1 d ∧ P2 r) PX :=
  AV.mono (a_cons ha hr hs) fun sl ⟨d, r, e1, p1, ds, e2, p2⟩ => ⟨d :: ds, by rw [e1, e2]; rfl, d, ds, rfl, p1, p2⟩
/-- the tuple, the list written out -/
theorem e_tup {P1 : List D → Prop} {x1} (h : DV X E env M es P1 PX) (hl : ∀ ds, P1 ds → ds.length ≤ 100000 ∧ P (.tup ds)) : EV X E env M (.Tuple es x1 pos) P PX :=
  PE.imp (pe_tup h) fun σ H Q ⟨S, as, ok, en, k, x⟩ => ⟨S, as, ok, en, fun sl vs S1 H1 p p1 ok1 r1 => by
    obtain ⟨ds, rfl, p⟩ := p
    have r := r1.dats
    exact ⟨sz_of (by rw [r.length]; exact (hl ds p).1), fun q hq => (tP.gives ok1 p1 k).tup ok1.ex hq (hl ds p).2 r⟩, x⟩
theorem e_lst {P1 : List D → Prop} (h : DV X E env M es P1 PX) (hl : ∀ ds, P1 ds → ds.length ≤ 100000 ∧ P (.lst ds)) : EV X E env M (.List es pos) P PX :=
  PE.imp (pe_lst h) fun σ H Q ⟨S, as, ok, en, k, x⟩ => ⟨S, as, ok, en, fun sl vs S1 H1 p p1 ok1 r1 => by
    obtain ⟨ds, rfl, p⟩ := p
    have r := r1.dats
    exact ⟨sz_of (by rw [r.length]; exact (hl ds p).1), fun q hq => (tP.gives ok1 p1 k).lst ok1.ex hq (hl ds p).2 r⟩, x⟩
/-- a new list of one's own -/
theorem Ok.more {K : PySem.W.Frag} {S H : Hp} {as : List Addr} {p : Addr} {m : MO} {H2 : Hp} (ok : Ok K S as M H) (hp : H p = none) (k : Ex H H2) (hm : HasO K S H2 p m) : Ok K S (as ++ [p]) (M ++ [m]) H2 := by
  refine ⟨ok.ex.trans k, ?_, ?_⟩
  · refine List.nodup_append.mpr ⟨ok.nd, by simp, fun a ha b hb => ?_⟩
    have e : b = p := by simpa using hb
    subst e
    rintro rfl
    exact ok.mem ha hp
  · have go : ∀ {as : List Addr} {M : List MO}, OwnL K S H as M → OwnL K S H2 (as ++ [p]) (M ++ [m]) := by
      intro as
      induction as with
      | nil =>
        intro M h
        cases M with
        | nil => exact ⟨hm, trivial⟩
        | cons _ _ => exact h.elim
      | cons a r ih =>
        intro M h
        cases M with
        | nil => exact h.elim
        | cons m0 ms => exact ⟨h.1.keep (Ex.refl S) (fun o q => k a o q) (fun z1 z2 => absurd z2 z1), ih h.2⟩
    exact go ok.own
theorem n_lst {P1 : List D → Prop} {P : MO → Prop} (h : DV X E env M es P1 PX) (hl : ∀ ds, P1 ds → ds.length ≤ 100000 ∧ P (.ml ds)) : NV X E env M (.List es pos) P PX :=
  PE.imp (pe_lst h) fun σ H Q ⟨S, as, ok, en, k, x⟩ => ⟨S, as, ok, en, fun sl vs S1 H1 p p1 ok1 r1 => by
    obtain ⟨ds, rfl, p⟩ := p
    have r := r1.dats
    refine ⟨sz_of (by rw [r.length]; exact (hl ds p).1), fun q hq => ?_⟩
    have hq0 : H q = none := by
      cases e : H q with
      | none => rfl
      | some o => exact absurd hq (p1.dom q (by rw [e]; exact fun z => nomatch z))
    have hs : S1 q = none := by
      cases e : S1 q with
      | none => rfl
      | some o => rw [ok1.ex q o e] at hq; cases hq
    exact k (.ml ds) q S1 _ (hl ds p).2 (p1.trans (Post.grew (Ex.refl _) (Ex.new hq) fun _ h1 h2 => absurd h2 h1)) hq0 (ok1.more hq (Ex.new hq) ⟨hs, vs, upd_same, r⟩), x⟩
/-- what is one's own becomes data -/
theorem NV.frz {P : List D → Prop} (h : NV X E env M e (fun m => ∃ ds, m = .ml ds ∧ P ds) PX) : EV X E env M e (fun d => ∃ ds, d = .lst ds ∧ P ds) PX :=
  PE.imp h fun σ H Q ⟨S, as, ok, en, k, x⟩ => ⟨S, as, ok, en, fun m p S1 H1 pm p1 hp ok1 => by
    obtain ⟨ds, rfl, pd⟩ := pm
    have hlen := ok.own.length
    obtain ⟨b, hb, hS, vs, hv, r⟩ := ok1.own.get (k := as.length) (m := .ml ds) (by rw [hlen]; simp)
    have e : b = p := by simpa using hb.symm
    subst e
    have e1 : Ex S1 (upd S1 b (.lst vs)) := Ex.new hS
    have e2 : Ex (upd S1 b (.lst vs)) H1 := fun c o q => by
      by_cases hc : c = b
      · subst hc; rw [upd_same] at q; rw [hv]; exact q
      · rw [upd_ne hc] at q; exact ok1.ex c o q
    have nb : b ∉ as := fun z => ok.mem z hp
    have nw : ∀ a, (upd S1 b (.lst vs)) a ≠ none → S1 a = none → a = b := fun a q1 q2 => by
      by_cases hc : a = b
      · exact hc
      · rw [upd_ne hc] at q1; exact absurd q2 q1
    have go : ∀ {as' : List Addr} {M' : List MO}, b ∉ as' → OwnL X.K S1 H1 (as' ++ [b]) (M' ++ [.ml ds]) → OwnL X.K (upd S1 b (.lst vs)) H1 as' M' := by
      intro as'
      induction as' with
      | nil =>
        intro M' _ h
        cases M' with
        | nil => trivial
        | cons m ms =>
          cases ms with
          | nil => exact h.2.elim
          | cons _ _ => exact h.2.elim
      | cons a r ih =>
        intro M' hn h
        cases M' with
        | nil =>
          cases r with
          | nil => exact h.2.elim
          | cons _ _ => exact h.2.elim
        | cons m ms =>
          refine ⟨h.1.keep e1 (fun _ z => z) (fun z1 z2 => ?_), ih (fun z => hn (List.mem_cons_of_mem _ z)) h.2⟩
          exact absurd (nw a z1 z2) (fun z => hn (z ▸ List.mem_cons_self))
    refine k _ _ (upd S1 b (.lst vs)) H1 ⟨ds, rfl, pd⟩ ⟨p1.ex.trans e1, p1.keep, p1.dom, fun a q1 q2 => ?_⟩ ⟨e2, ok.nd, go nb ok1.own⟩ ⟨b, vs, rfl, sq_of upd_same, r.mono e1⟩
    by_cases hc : a = b
    · subst hc; exact hp
    · rw [upd_ne hc] at q1; exact p1.new a q1 q2, x⟩
/-- a built-in function of data -/
theorem e_callB {P1 : List D → Prop} {id : String} {r : List V → Hp → VK → Prop} {x : Str} {p : Pos} (hc : CallR X (.builtin id) r) (hg : Gl X x) (hm : X.mg x = none) (hv : bootBuiltins x = some (.builtin id)) (ha : DV X E env M (a :: es) P1 PX) (h : ∀ ds, P1 ds → Fnc X.K r ds P)
    (hn : x ≠ "__name__" := by decide) (hdb : (x == ("__debug__" : Str)) = false := by decide) (he : starEach (a :: es) X.env = (false, eval a X.env) :: starEach es X.env := by rfl) (hpl : (backTo pos (starEach es X.env)).any (·.1) = false := by rfl) :
    EV X E env M (.Call (.Name x p) (a :: es) [] pos) P PX :=
  PE.imp (pe_callB hc hg hm hv ha hn hdb he hpl) fun σ H Q ⟨S, as, ok, en, k, y⟩ => ⟨S, as, ok, en, fun sl vs S1 H1 p p1 ok1 r1 => by
    obtain ⟨ds, rfl, p⟩ := p
    exact h ds p S1 H1 vs Q ok1.ex r1.dats (tP.gives ok1 p1 k), y⟩
theorem e_callTy {P1 : List D → Prop} {T : String} {r : List V → Hp → VK → Prop} {x : Str} {p : Pos} (hc : CallR X (.type T) r) (hg : Gl X x) (hm : X.mg x = none) (hv : bootBuiltins x = some (.type T)) (ha : DV X E env M (a :: es) P1 PX) (h : ∀ ds, P1 ds → Fnc X.K r ds P)
    (hn : x ≠ "__name__" := by decide) (hdb : (x == ("__debug__" : Str)) = false := by decide) (he : starEach (a :: es) X.env = (false, eval a X.env) :: starEach es X.env := by rfl) (hpl : (backTo pos (starEach es X.env)).any (·.1) = false := by rfl) :
    EV X E env M (.Call (.Name x p) (a :: es) [] pos) P PX :=
  PE.imp (pe_callTy hc hg hm hv ha hn hdb he hpl) fun σ H Q ⟨S, as, ok, en, k, y⟩ => ⟨S, as, ok, en, fun sl vs S1 H1 p p1 ok1 r1 => by
    obtain ⟨ds, rfl, p⟩ := p
    exact h ds p S1 H1 vs Q ok1.ex r1.dats (tP.gives ok1 p1 k), y⟩
/-- an item, by its rule -/
theorem e_ix {r : R2} {Pa Pb : D → Prop} (hr : IxR X r) (ha : EV X E env M a Pa PX) (hb : EV X E env M b Pb PX) (hs : PlainIx b) (h : ∀ da db, Pa da → Pb db → Bin X.K r da db P) : EV X E env M (.Subscript a b pos) P PX :=
  PE.imp (pe_ix hr ha hb hs) fun σ H Q q => bin_read (fun _ z => z) (fun _ _ z => z) h q
end
end DL

set_option Elab.async false
set_option linter.all false
set_option maxRecDepth 100000
set_option maxHeartbeats 4000000
namespace DL
open PySem L2 Evl

theorem EnvR.setD {K : PySem.W.Frag} {S : Hp} {as : List Addr} {env : List Slot} {σ : L2.St} {d : D} {v : V} (h : EnvR K S as env σ) (r : Rep K S d v) (i : Nat) : EnvR K S as (env.set i (.dat d)) (σ.set i (some v)) :=
  EnvR.set (s := .dat d) (o := some v) ⟨v, rfl, r⟩ i h
inductive Out where
  | nx (env : List Slot) (M : List MO) | bk (env : List Slot) (M : List MO) | ct (env : List Slot) (M : List MO)
  | rt (d : D) (M : List MO) | rn (k : Nat) (M : List MO) | xx (c : Value) (env : List Slot) (M : List MO)
def Out.isNx : Out → Bool
  | .nx _ _ => true
  | _ => false
def HOut (K : PySem.W.Frag) (E : WK) (Dn : Ends) (as : List Addr) (S H : Hp) : Out → Prop
  | .nx env M => ∀ σ' S2 ns H2, Post as S H S2 H2 → (∀ a ∈ ns, H a = none) → Ok K S2 (as ++ ns) M H2 → EnvR K S2 (as ++ ns) env σ' → Dn.nx σ' H2
  | .bk env M => ∀ σ' S2 ns H2, Post as S H S2 H2 → (∀ a ∈ ns, H a = none) → Ok K S2 (as ++ ns) M H2 → EnvR K S2 (as ++ ns) env σ' → Dn.bk σ' H2
  | .ct env M => ∀ σ' S2 ns H2, Post as S H S2 H2 → (∀ a ∈ ns, H a = none) → Ok K S2 (as ++ ns) M H2 → EnvR K S2 (as ++ ns) env σ' → Dn.ct σ' H2
  | .rt d M => ∀ v S2 ns H2, Post as S H S2 H2 → (∀ a ∈ ns, H a = none) → Ok K S2 (as ++ ns) M H2 → Rep K S2 d v → Dn.rt v H2
  | .rn k M => ∀ a S2 ns H2, Post as S H S2 H2 → (∀ a ∈ ns, H a = none) → Ok K S2 (as ++ ns) M H2 → (as ++ ns)[k]? = some a → Dn.rt (.ref a) H2
  | .xx c env M => ∀ σ' S2 ns H2, Post as S H S2 H2 → (∀ a ∈ ns, H a = none) → Ok K S2 (as ++ ns) M H2 → EnvR K S2 (as ++ ns) env σ' → E σ' c none H2
/-- a statement, a block: its outcome is one of P -/
def tS (K : PySem.W.Frag) (E : WK) (env : List Slot) (M : List MO) (P : Out → Prop) : TS := fun Dn σ H =>
  ∃ S as, Ok K S as M H ∧ EnvR K S as env σ ∧ ∀ o, P o → HOut K E Dn as S H o
abbrev BS (X : Cx) (E : WK) (env : List Slot) (M : List MO) (st : List Stmt) (P : Out → Prop) : Prop := PSs X st (tS X.K E env M P)
abbrev Ret (P : Out → Prop) : Out → Prop := fun o => o.isNx = false ∧ P o

section
variable {K : PySem.W.Frag} {E : WK} {Dn : Ends} {as ns : List Addr} {S H S1 H1 : Hp} {M1 : List MO}
theorem HOut.after (p1 : Post as S H S1 H1) (f1 : ∀ a ∈ ns, H a = none) {o : Out} (h : HOut K E Dn as S H o) : HOut K E Dn (as ++ ns) S1 H1 o := by
  have fr : ∀ n2 : List Addr, (∀ a ∈ n2, H1 a = none) → ∀ a ∈ ns ++ n2, H a = none := fun n2 f2 a ha => by
    rcases List.mem_append.mp ha with ha | ha
    · exact f1 a ha
    · cases q : H a with
      | none => rfl
      | some o => exact absurd (f2 a ha) (p1.dom a (by rw [q]; exact fun z => nomatch z))
  cases o with
  | nx env M => exact fun σ' S2 n2 H2 p2 f2 ok2 en2 => h σ' S2 (ns ++ n2) H2 (p1.grow f1 p2) (fr n2 f2) (by rw [← List.append_assoc]; exact ok2) (by rw [← List.append_assoc]; exact en2)
  | bk env M => exact fun σ' S2 n2 H2 p2 f2 ok2 en2 => h σ' S2 (ns ++ n2) H2 (p1.grow f1 p2) (fr n2 f2) (by rw [← List.append_assoc]; exact ok2) (by rw [← List.append_assoc]; exact en2)
  | ct env M => exact fun σ' S2 n2 H2 p2 f2 ok2 en2 => h σ' S2 (ns ++ n2) H2 (p1.grow f1 p2) (fr n2 f2) (by rw [← List.append_assoc]; exact ok2) (by rw [← List.append_assoc]; exact en2)
  | rt d M => exact fun v S2 n2 H2 p2 f2 ok2 r => h v S2 (ns ++ n2) H2 (p1.grow f1 p2) (fr n2 f2) (by rw [← List.append_assoc]; exact ok2) r
  | rn k M => exact fun v S2 n2 H2 p2 f2 ok2 r => h v S2 (ns ++ n2) H2 (p1.grow f1 p2) (fr n2 f2) (by rw [← List.append_assoc]; exact ok2) (by rw [← List.append_assoc]; exact r)
  | xx c env M => exact fun σ' S2 n2 H2 p2 f2 ok2 en2 => h σ' S2 (ns ++ n2) H2 (p1.grow f1 p2) (fr n2 f2) (by rw [← List.append_assoc]; exact ok2) (by rw [← List.append_assoc]; exact en2)
theorem HOut.after0 (p1 : Post as S H S1 H1) {o : Out} (h : HOut K E Dn as S H o) : HOut K E Dn as S1 H1 o := by
  have := HOut.after (ns := []) p1 (fun _ z => nomatch z) h
  rwa [List.append_nil] at this
theorem HOut.ends {D1 D2 : Ends} (h1 : D1.rt = D2.rt) (h2 : D1.bk = D2.bk) (h3 : D1.ct = D2.ct) {o : Out} (hn : o.isNx = false) (h : HOut K E D1 as S H o) : HOut K E D2 as S H o := by
  obtain ⟨n1, r1, b1, c1⟩ := D1
  obtain ⟨n2, r2, b2, c2⟩ := D2
  obtain rfl : r1 = r2 := h1
  obtain rfl : b1 = b2 := h2
  obtain rfl : c1 = c2 := h3
  cases o with
  | nx _ _ => cases hn
  | bk _ _ => exact h
  | ct _ _ => exact h
  | rt _ _ => exact h
  | rn _ _ => exact h
  | xx _ _ _ => exact h
/-- the nx outcome at once -/
theorem HOut.go {env : List Slot} {M : List MO} {σ' : L2.St} (h : HOut K E Dn as S H (.nx env M)) (p : Post as S H S1 H1) (ok : Ok K S1 as M H1) (en : EnvR K S1 as env σ') : Dn.nx σ' H1 :=
  h σ' S1 [] H1 p (fun _ z => nomatch z) (by rw [List.append_nil]; exact ok) (by rw [List.append_nil]; exact en)
theorem HOut.ret {d : D} {M : List MO} {v : V} (h : HOut K E Dn as S H (.rt d M)) (p : Post as S H S1 H1) (ok : Ok K S1 as M H1) (r : Rep K S1 d v) : Dn.rt v H1 :=
  h v S1 [] H1 p (fun _ z => nomatch z) (by rw [List.append_nil]; exact ok) r
theorem HOut.exc {c : Value} {env : List Slot} {M : List MO} {σ' : L2.St} (h : HOut K E Dn as S H (.xx c env M)) (p : Post as S H S1 H1) (ok : Ok K S1 as M H1) (en : EnvR K S1 as env σ') : E σ' c none H1 :=
  h σ' S1 [] H1 p (fun _ z => nomatch z) (by rw [List.append_nil]; exact ok) (by rw [List.append_nil]; exact en)
end

section
variable {X : Cx} {E : WK} {env : List Slot} {M : List MO} {P P' : Out → Prop} {PX : Value → Prop} {st : Stmt} {rest body orelse : List Stmt} {pos : Pos} {e c : Expr}
theorem BS.mono (h : BS X E env M rest P) (w : ∀ o, P o → P' o) : BS X E env M rest P' :=
  PSs.imp h fun Dn σ H ⟨S, as, ok, en, k⟩ => ⟨S, as, ok, en, fun o p => k o (w o p)⟩
theorem ss_nil (h : P (.nx env M)) : BS X E env M [] P :=
  PSs.imp pss_nil fun Dn σ H ⟨S, as, ok, en, k⟩ => (k _ h).go Post.refl ok en
/-- what comes behind, at any of some outcomes -/
def tRest (X : Cx) (E : WK) (rest : List Stmt) (P : Out → Prop) : TS := fun Dn σ H => ∃ (i : {p : List Slot × List MO // BS X E p.1 p.2 rest P}), tS X.K E i.val.1 i.val.2 P Dn σ H
theorem tRest.ok : PSs X rest (tRest X E rest P) := PSs.ex fun i => i.property
theorem ss_cons {P1 : Out → Prop} (h1 : PS X st (tS X.K E env M P1)) (h2 : ∀ env1 M1, P1 (.nx env1 M1) → BS X E env1 M1 rest P) (h3 : ∀ o, P1 o → o.isNx = false → P o) : BS X E env M (st :: rest) P := by
  refine PSs.imp (pss_cons h1 (tRest.ok (E := E) (P := P))) fun Dn σ H ⟨S, as, ok, en, k⟩ => ⟨S, as, ok, en, fun o p => ?_⟩
  cases o with
  | nx env1 M1 => exact fun σ' S2 ns H2 p2 f2 ok2 en2 => ⟨⟨(env1, M1), h2 env1 M1 p⟩, S2, as ++ ns, ok2, en2, fun o' p' => (k o' p').after p2 f2⟩
  | bk _ _ => exact HOut.ends rfl rfl rfl rfl (k _ (h3 _ p rfl))
  | ct _ _ => exact HOut.ends rfl rfl rfl rfl (k _ (h3 _ p rfl))
  | rt _ _ => exact HOut.ends rfl rfl rfl rfl (k _ (h3 _ p rfl))
  | rn _ _ => exact HOut.ends rfl rfl rfl rfl (k _ (h3 _ p rfl))
  | xx _ _ _ => exact HOut.ends rfl rfl rfl rfl (k _ (h3 _ p rfl))
/-- a statement that goes on -/
theorem tS.one {t : TS} (h : PS X st t) (w : ∀ Dn σ H, tS X.K E env M P Dn σ H → t Dn σ H) : PS X st (tS X.K E env M P) := PS.imp h w

/-! ### return, assignments, expressions -/
theorem ss_ret {P1 : D → Prop} (h : EV X E env M e P1 PX) (hp : ∀ d, P1 d → P (.rt d M)) (hx : ∀ c, PX c → P (.xx c env M)) : BS X E env M (.Return (some e) pos :: rest) P := by
  refine ss_cons (P1 := fun o => o.isNx = false ∧ P o) (PS.imp (ps_ret h) fun Dn σ H ⟨S, as, ok, en, k⟩ => ⟨S, as, ok, en, fun d v S2 H2 p p2 ok2 r => ?_, fun c S2 H2 p p2 ok2 => ?_⟩) (fun _ _ z => nomatch z.1) fun o z _ => z.2
  · exact (k _ ⟨rfl, hp d p⟩).ret p2 ok2 r
  · exact (k _ ⟨rfl, hx c p⟩).exc p2 ok2 (en.ex p2.ex)
theorem ss_retN (h : P (.rt .non M)) : BS X E env M (.Return none pos :: rest) P := by
  refine ss_cons (P1 := fun o => o.isNx = false ∧ P o) (PS.imp ps_retN fun Dn σ H ⟨S, as, ok, en, k⟩ => ?_) (fun _ _ z => nomatch z.1) fun o z _ => z.2
  exact (k _ ⟨rfl, h⟩).ret Post.refl ok rfl
/-- the object at a pointer is handed back -/
theorem ss_retP {i k : Nat} (h : PE X e (tVar i)) (he : env[i]? = some (.ptr k)) (hp : P (.rn k M)) : BS X E env M (.Return (some e) pos :: rest) P := by
  refine ss_cons (P1 := fun o => o.isNx = false ∧ P o) (PS.imp (ps_ret h) fun Dn σ H ⟨S, as, ok, en, kk⟩ => ?_) (fun _ _ z => nomatch z.1) fun o z _ => z.2
  obtain ⟨o, ho, b, hb, e2⟩ := en.get he
  subst e2
  exact ⟨_, ho, (kk _ ⟨rfl, hp⟩) b S [] H Post.refl (fun _ z => nomatch z) (by rw [List.append_nil]; exact ok) (by rw [List.append_nil]; exact hb)⟩
theorem ss_asg {i : Nat} {P1 : D → Prop} (h : ∀ te, PE X e te → PS X st (tAsg te (gName i))) (he : EV X E env M e P1 PX) (hr : ∀ d, P1 d → BS X E (env.set i (.dat d)) M rest P) (hx : ∀ c, PX c → P (.xx c env M)) : BS X E env M (st :: rest) P := by
  refine ss_cons (P1 := fun o => (∃ d, P1 d ∧ o = .nx (env.set i (.dat d)) M) ∨ ∃ c, PX c ∧ o = .xx c env M) (PS.imp (h _ he) fun Dn σ H ⟨S, as, ok, en, k⟩ => ⟨S, as, ok, en, fun d v S2 H2 p p2 ok2 r => ?_, fun c S2 H2 p p2 ok2 => ?_⟩) ?_ ?_
  · exact (k _ (.inl ⟨d, p, rfl⟩)).go p2 ok2 (EnvR.set (s := .dat d) (o := some v) ⟨v, rfl, r⟩ i (en.ex p2.ex))
  · exact (k _ (.inr ⟨c, p, rfl⟩)).exc p2 ok2 (en.ex p2.ex)
  · rintro env1 M1 (⟨d, p, e1⟩ | ⟨c, _, e1⟩)
    · cases e1; exact hr d p
    · cases e1
  · rintro o (⟨d, p, rfl⟩ | ⟨c, p, rfl⟩) hn
    · cases hn
    · exact hx c p
theorem ss_set {i : Nat} {x : Str} {P1 : D → Prop} {pos' : Pos} (hN : X.N.Nodup) (hi : X.N[i]? = some x) (hl : Loc X.env.scope x) (he : EV X E env M e P1 PX) (hr : ∀ d, P1 d → BS X E (env.set i (.dat d)) M rest P) (hx : ∀ c, PX c → P (.xx c env M))
    (hs : swapsWith e (some (.Name x pos')) pos.line X.env = pure false := by rfl) (hf : X.fn x = true ∨ X.env.scope.names.lookup x = some .local := by first | exact .inl rfl | exact .inr rfl | assumption) : BS X E env M (.Assign [.Name x pos'] e pos :: rest) P :=
  ss_asg (fun te h => ps_set hN hi hl h hs hf) he hr hx
/-- a name gets a new object of one's own -/
theorem ss_asgN {i : Nat} {P1 : MO → Prop} (h : ∀ te, PE X e te → PS X st (tAsg te (gName i))) (he : NV X E env M e P1 PX) (hr : ∀ m, P1 m → BS X E (env.set i (.ptr M.length)) (M ++ [m]) rest P) (hx : ∀ c, PX c → P (.xx c env M)) : BS X E env M (st :: rest) P := by
  refine ss_cons (P1 := fun o => (∃ m, P1 m ∧ o = .nx (env.set i (.ptr M.length)) (M ++ [m])) ∨ ∃ c, PX c ∧ o = .xx c env M) (PS.imp (h _ he) fun Dn σ H ⟨S, as, ok, en, k⟩ => ⟨S, as, ok, en, fun m p S2 H2 pm p2 hp ok2 => ?_, fun c S2 H2 p p2 ok2 => ?_⟩) ?_ ?_
  · refine (k _ (.inl ⟨m, pm, rfl⟩)) _ S2 [p] H2 p2 (fun a ha => by rw [List.mem_singleton.mp ha]; exact hp) ok2 ?_
    refine EnvR.set (s := .ptr M.length) (o := some (.ref p)) ⟨p, ?_, rfl⟩ i (en.mono p2.ex fun k a hk => ?_)
    · rw [← ok.own.length]; simp
    · rw [List.getElem?_append_left (List.getElem?_eq_some_iff.mp hk).1]; exact hk
  · exact (k _ (.inr ⟨c, p, rfl⟩)).exc p2 ok2 (en.ex p2.ex)
  · rintro env1 M1 (⟨d, p, e1⟩ | ⟨c, _, e1⟩)
    · cases e1; exact hr d p
    · cases e1
  · rintro o (⟨d, p, rfl⟩ | ⟨c, p, rfl⟩) hn
    · cases hn
    · exact hx c p
theorem ss_setN {i : Nat} {x : Str} {P1 : MO → Prop} {pos' : Pos} (hN : X.N.Nodup) (hi : X.N[i]? = some x) (hl : Loc X.env.scope x) (he : NV X E env M e P1 PX) (hr : ∀ m, P1 m → BS X E (env.set i (.ptr M.length)) (M ++ [m]) rest P) (hx : ∀ c, PX c → P (.xx c env M))
    (hs : swapsWith e (some (.Name x pos')) pos.line X.env = pure false := by rfl) (hf : X.fn x = true ∨ X.env.scope.names.lookup x = some .local := by first | exact .inl rfl | exact .inr rfl | assumption) : BS X E env M (.Assign [.Name x pos'] e pos :: rest) P :=
  ss_asgN (fun te h => ps_set hN hi hl h hs hf) he hr hx
theorem ss_expr {P1 : D → Prop} (he : EV X E env M e P1 PX) (hr : ∀ d, P1 d → BS X E env M rest P) (hx : ∀ c, PX c → P (.xx c env M)) (hs : swapsWith e none pos.line X.env = pure false := by rfl) : BS X E env M (.Expr e pos :: rest) P := by
  refine ss_cons (P1 := fun o => (∃ d, P1 d ∧ o = .nx env M) ∨ ∃ c, PX c ∧ o = .xx c env M) (PS.imp (ps_expr he hs) fun Dn σ H ⟨S, as, ok, en, k⟩ => ⟨S, as, ok, en, fun d v S2 H2 p p2 ok2 r => ?_, fun c S2 H2 p p2 ok2 => ?_⟩) ?_ ?_
  · exact (k _ (.inl ⟨d, p, rfl⟩)).go p2 ok2 (en.ex p2.ex)
  · exact (k _ (.inr ⟨c, p, rfl⟩)).exc p2 ok2 (en.ex p2.ex)
  · rintro env1 M1 (⟨d, p, e1⟩ | ⟨c, _, e1⟩)
    · cases e1; exact hr d p
    · cases e1
  · rintro o (⟨d, p, rfl⟩ | ⟨c, p, rfl⟩) hn
    · cases hn
    · exact hx c p
theorem ss_pass (h : BS X E env M rest P) : BS X E env M (.Pass pos :: rest) P :=
  ss_cons (P1 := (· = .nx env M)) (PS.imp ps_pass fun Dn σ H ⟨S, as, ok, en, k⟩ => (k _ rfl).go Post.refl ok en) (fun env1 M1 e => by cases e; exact h) fun o e hn => by subst e; cases hn
theorem ss_break (h : P (.bk env M)) : BS X E env M (.Break pos :: rest) P :=
  ss_cons (P1 := (· = .bk env M)) (PS.imp ps_break fun Dn σ H ⟨S, as, ok, en, k⟩ => (k _ rfl) σ S [] H Post.refl (fun _ z => nomatch z) (by rw [List.append_nil]; exact ok) (by rw [List.append_nil]; exact en)) (fun env1 M1 e => nomatch e) fun o e hn => by subst e; exact h
theorem ss_continue (h : P (.ct env M)) : BS X E env M (.Continue pos :: rest) P :=
  ss_cons (P1 := (· = .ct env M)) (PS.imp ps_continue fun Dn σ H ⟨S, as, ok, en, k⟩ => (k _ rfl) σ S [] H Post.refl (fun _ z => nomatch z) (by rw [List.append_nil]; exact ok) (by rw [List.append_nil]; exact en)) (fun env1 M1 e => nomatch e) fun o e hn => by subst e; exact h

/-! ### if -/
theorem s_if {P1 : Bool → Prop} {P2 : Out → Prop} (hc : BV X E env M c P1 PX) (h1 : P1 true → BS X E env M body P2) (h2 : P1 false → BS X E env M orelse P2) : PS X (.If c body orelse pos) (tS X.K E env M fun o => P2 o ∨ ∃ c, PX c ∧ o = .xx c env M) := by
  have A : ∃ ta, PSs X body ta ∧ (P1 true → ta = tS X.K E env M P2) := by
    by_cases h : P1 true
    · exact ⟨_, h1 h, fun _ => rfl⟩
    · exact ⟨tNever, pss_never, fun z => absurd z h⟩
  have B : ∃ tb, PSs X orelse tb ∧ (P1 false → tb = tS X.K E env M P2) := by
    by_cases h : P1 false
    · exact ⟨_, h2 h, fun _ => rfl⟩
    · exact ⟨tNever, pss_never, fun z => absurd z h⟩
  obtain ⟨ta, ha, ea⟩ := A
  obtain ⟨tb, hb, eb⟩ := B
  refine PS.imp (ps_if hc ha hb) fun Dn σ H ⟨S, as, ok, en, k⟩ => ⟨S, as, ok, en, fun b S2 H2 p p2 ok2 => ?_, fun c S2 H2 p p2 ok2 => (k _ (.inr ⟨c, p, rfl⟩)).exc p2 ok2 (en.ex p2.ex)⟩
  cases b with
  | true =>
    rw [ea p]
    exact iteT ⟨S2, as, ok2, en.ex p2.ex, fun o q => (k o (.inl q)).after0 p2⟩
  | false =>
    rw [eb p]
    exact iteF ⟨S2, as, ok2, en.ex p2.ex, fun o q => (k o (.inl q)).after0 p2⟩
theorem ss_if {P1 : Bool → Prop} {P2 : Out → Prop} (hc : BV X E env M c P1 PX) (h1 : P1 true → BS X E env M body P2) (h2 : P1 false → BS X E env M orelse P2) (h3 : ∀ env1 M1, P2 (.nx env1 M1) → BS X E env1 M1 rest P) (h4 : ∀ o, P2 o → o.isNx = false → P o) (hx : ∀ c, PX c → P (.xx c env M)) :
    BS X E env M (.If c body orelse pos :: rest) P :=
  ss_cons (s_if hc h1 h2) (fun env1 M1 q => q.elim (h3 env1 M1) fun ⟨_, _, e⟩ => nomatch e) fun o q hn => q.elim (fun q => h4 o q hn) fun ⟨c, p, e⟩ => by subst e; exact hx c p
/-- if c: (leaves) -/
theorem ss_ifret {P1 : Bool → Prop} (hc : BV X E env M c P1 PX) (h1 : P1 true → BS X E env M body (Ret P)) (h2 : P1 false → BS X E env M rest P) (hx : ∀ c, PX c → P (.xx c env M)) : BS X E env M (.If c body [] pos :: rest) P :=
  ss_if (P2 := fun o => Ret P o ∨ (P1 false ∧ o = .nx env M)) hc (fun p => (h1 p).mono fun _ q => .inl q) (fun p => ss_nil (.inr ⟨p, rfl⟩)) (fun env1 M1 q => q.elim (fun z => nomatch z.1) fun ⟨p, e⟩ => by cases e; exact h2 p)
    (fun o q hn => q.elim (fun z => z.2) fun ⟨_, e⟩ => by subst e; cases hn) hx
/-- if c: (leaves) else: (leaves) -/
theorem ss_ifelse {P1 : Bool → Prop} (hc : BV X E env M c P1 PX) (h1 : P1 true → BS X E env M body (Ret P)) (h2 : P1 false → BS X E env M orelse (Ret P)) (hx : ∀ c, PX c → P (.xx c env M)) : BS X E env M (.If c body orelse pos :: rest) P :=
  ss_if (P2 := Ret P) hc h1 h2 (fun env1 M1 q => nomatch q.1) (fun o q _ => q.2) hx

/-! ### what is gone through -/
structure WalkD (K : PySem.W.Frag) (S2 : Hp) (J : It) (ds : List D) : Prop where
  ex : ∃ (G : Hp → Prop) (Y : Nat → Hp → V → Hp → Prop), Walk J ds.length G Y ∧ (∀ H, Ex S2 H → G H) ∧
    ∀ i S' H x H', i < ds.length → Ex S2 S' → Ex S' H → Y i H x H' → ∃ S3 d, ds[i]? = some d ∧ Ex S' S3 ∧ Ex S3 H' ∧ Ex H H' ∧ (∀ a, S3 a ≠ none → S' a = none → H a = none) ∧ Rep K S3 d x
def tI (K : PySem.W.Frag) (E : WK) (env : List Slot) (M : List MO) (P : List D → Prop) (PX : Value → Prop) : TI := fun σ H R =>
  ∃ S as, Ok K S as M H ∧ EnvR K S as env σ ∧ (∀ ds J S2 H2, P ds → Post as S H S2 H2 → Ok K S2 as M H2 → WalkD K S2 J ds → R J H2) ∧
    (∀ c S2 H2, PX c → Post as S H S2 H2 → Ok K S2 as M H2 → E σ c none H2)
abbrev IV (X : Cx) (E : WK) (env : List Slot) (M : List MO) (tg e : Expr) (P : List D → Prop) (PX : Value → Prop) : Prop := PI X tg e (tI X.K E env M P PX)
theorem WalkD.at {K : PySem.W.Frag} {S2 : Hp} {J : It} {ds : List D} {xs : List V} {G : Hp → Prop} (w : Walk J xs.length G (YAt xs)) (hG : ∀ H, Ex S2 H → G H) (r : RepL K S2 ds xs) : WalkD K S2 J ds := by
  have hl := r.length
  refine ⟨G, YAt xs, hl ▸ w, hG, fun i S' H x H' hi e1 e2 y => ?_⟩
  obtain ⟨rfl, hx⟩ := y
  obtain ⟨d, hd, rd⟩ := r.get' hx
  exact ⟨S', d, hd, Ex.refl _, e2, Ex.refl _, fun a h1 h2 => absurd h2 h1, rd.mono e1⟩
theorem i_list {tg : Expr} {P : List D → Prop} (h : EV X E env M e (fun d => ∃ ds, d = .lst ds ∧ P ds) PX) : IV X E env M tg e P PX :=
  PI.imp (pi_list h) fun σ H R ⟨S, as, ok, en, k, x⟩ => ⟨S, as, ok, en, fun d v S2 H2 p p2 ok2 r => by
    obtain ⟨ds, rfl, p⟩ := p
    obtain ⟨a, xs, rfl, hq, rl⟩ := r
    exact ⟨a, rfl, ⟨xs, ex_l ok2.ex hq⟩, k ds _ S2 H2 p p2 ok2 (WalkD.at walk_list (fun H e => ex_l e hq) rl)⟩, x⟩
theorem i_tup {tg : Expr} {P : List D → Prop} (h : EV X E env M e (fun d => ∃ ds, d = .tup ds ∧ P ds) PX) : IV X E env M tg e P PX :=
  PI.imp (pi_tup h) fun σ H R ⟨S, as, ok, en, k, x⟩ => ⟨S, as, ok, en, fun d v S2 H2 p p2 ok2 r => by
    obtain ⟨ds, rfl, p⟩ := p
    obtain ⟨a, xs, rfl, hq, rl⟩ := r
    exact ⟨a, rfl, ⟨xs, ex_t ok2.ex hq⟩, k ds _ S2 H2 p p2 ok2 (WalkD.at walk_tup (fun H e => ex_t e hq) rl)⟩, x⟩
/-- whole numbers lo, lo + 1, .. -/
def upFrom (lo : Int) (n : Nat) : List D := (List.range n).map fun i => D.int (lo + (i : Nat))
theorem upFrom_len (lo : Int) (n : Nat) : (upFrom lo n).length = n := by unfold upFrom; simp
theorem upFrom_get {lo : Int} {n i : Nat} (h : i < n) : (upFrom lo n)[i]? = some (.int (lo + (i : Nat))) := by unfold upFrom; simp [h]
theorem walkD_range {K : PySem.W.Frag} {S2 : Hp} (lo : Int) (n : Nat) : WalkD K S2 (Itr lo n) (upFrom lo n) := by
  refine ⟨fun _ => True, YFn fun i => .int (lo + i), by rw [upFrom_len]; exact walk_range, fun _ _ => trivial, fun i S' H x H' hi e1 e2 y => ?_⟩
  obtain ⟨rfl, rfl⟩ := y
  rw [upFrom_len] at hi
  exact ⟨S', _, upFrom_get hi, Ex.refl _, e2, Ex.refl _, fun a h1 h2 => absurd h2 h1, rfl⟩
theorem i_range1 {tg a : Expr} {P : List D → Prop} {p : Pos} (hg : Gl X "range") (hm : X.mg "range" = none) (h : DV X E env M [a] (fun l => ∃ j : Int, l = [.int j] ∧ j ≤ 100000 ∧ -100000 ≤ j ∧ P (upFrom 0 j.toNat)) PX) (hs : starEach [a] X.env = [(false, eval a X.env)] := by rfl) :
    IV X E env M tg (.Call (.Name "range" p) [a] [] pos) P PX :=
  PI.imp (pi_range1 hg hm h hs) fun σ H R ⟨S, as, ok, en, k, x⟩ => ⟨S, as, ok, en, fun sl vs S2 H2 p p2 ok2 r => by
    obtain ⟨ds, rfl, j, rfl, hj1, hj2, p⟩ := p
    obtain ⟨v, t, rfl, hv, ht⟩ := r.dats
    obtain rfl : v = .int j := hv
    obtain rfl : t = [] := ht
    exact ⟨j, rfl, by omega, by omega, k _ _ S2 H2 p p2 ok2 (walkD_range 0 _)⟩, x⟩
theorem i_range2 {tg a b : Expr} {P : List D → Prop} {p : Pos} (hg : Gl X "range") (hm : X.mg "range" = none) (h : DV X E env M [a, b] (fun l => ∃ i j : Int, l = [.int i, .int j] ∧ i ≤ 100000 ∧ -100000 ≤ i ∧ j ≤ 100000 ∧ -100000 ≤ j ∧ P (upFrom i (j - i).toNat)) PX)
    (hs : starEach [a, b] X.env = [(false, eval a X.env), (false, eval b X.env)] := by rfl) (hs2 : starEach [b] X.env = [(false, eval b X.env)] := by rfl) :
    IV X E env M tg (.Call (.Name "range" p) [a, b] [] pos) P PX :=
  PI.imp (pi_range2 hg hm h hs hs2) fun σ H R ⟨S, as, ok, en, k, x⟩ => ⟨S, as, ok, en, fun sl vs S2 H2 p p2 ok2 r => by
    obtain ⟨ds, rfl, i, j, rfl, hj1, hj2, hj3, hj4, p⟩ := p
    obtain ⟨v, t, rfl, hv, ht⟩ := r.dats
    obtain rfl : v = .int i := hv
    obtain ⟨u, t2, rfl, hu, ht⟩ := ht
    obtain rfl : u = .int j := hu
    obtain rfl : t2 = [] := ht
    exact ⟨i, j, rfl, ⟨by omega, by omega, by omega, by omega⟩, k _ _ S2 H2 p p2 ok2 (walkD_range i _)⟩, x⟩
def signsD (z : Str) : List D := z.cps.toList.map fun c => D.str ⟨#[c]⟩
theorem i_str {tg : Expr} {P : List D → Prop} (h : EV X E env M e (fun d => ∃ z, d = .str z ∧ P (signsD z)) PX) : IV X E env M tg e P PX :=
  PI.imp (pi_str h) fun σ H R ⟨S, as, ok, en, k, x⟩ => ⟨S, as, ok, en, fun d v S2 H2 p p2 ok2 r => by
    obtain ⟨z, rfl, p⟩ := p
    obtain rfl : v = .str z := r
    refine ⟨z, rfl, k (signsD z) _ S2 H2 p p2 ok2 ⟨fun _ => True, fun i H v H' => H' = H ∧ ∃ c, z.cps[i]? = some c ∧ v = .str ⟨#[c]⟩, ?_, fun _ _ => trivial, fun i S' H x H' hi e1 e2 y => ?_⟩⟩
    · have e : (signsD z).length = z.cps.size := by unfold signsD; simp
      rw [e]; exact walk_str
    · obtain ⟨rfl, c, hc, rfl⟩ := y
      refine ⟨S', .str ⟨#[c]⟩, ?_, Ex.refl _, e2, Ex.refl _, fun a h1 h2 => absurd h2 h1, rfl⟩
      unfold signsD
      rw [List.getElem?_map, Array.getElem?_toList, hc]
      rfl, x⟩

/-! ### targets -/
structure Tg (K : PySem.W.Frag) (g : TG) (vs : List Nat) (asg : List Slot → D → List Slot → Prop) : Prop where
  go : ∀ S as env σ H d v (Q : L2.St → Hp → Prop) env', Ex S H → EnvR K S as env σ → Rep K S d v → asg env d env' → (∀ σ', EnvR K S as env' σ' → L2.wipe σ' vs = L2.wipe σ vs → Q σ' H) → g v σ H Q
abbrev as1 (j : Nat) : List Slot → D → List Slot → Prop := fun env d env' => env' = env.set j (.dat d)
abbrev as2 (i j : Nat) : List Slot → D → List Slot → Prop := fun env d env' => ∃ d1 d2, d = .tup [d1, d2] ∧ env' = (env.set i (.dat d1)).set j (.dat d2)
theorem tg1 {K : PySem.W.Frag} {j : Nat} : Tg K (gName j) [j] (as1 j) := ⟨fun S as env σ H d v Q env' e en r ha k => by
  subst ha
  exact k _ (en.setD r j) (by show (σ.set j _).set j _ = σ.set j _; rw [List.set_set])⟩
theorem tg2 {K : PySem.W.Frag} {i j : Nat} (hij : i ≠ j) : Tg K (gTup K 2 (gCons (gName i) (gCons (gName j) gNil))) [i, j] (as2 i j) := ⟨fun S as env σ H d v Q env' e en r ha k => by
  obtain ⟨d1, d2, rfl, rfl⟩ := ha
  obtain ⟨a, xs, rfl, hq, x1, t1, rfl, r1, x2, t2, rfl, r2, ht⟩ := r
  obtain rfl : t2 = [] := ht
  refine ⟨a, [x1, x2], rfl, ex_t e hq, rfl, x1, [x2], rfl, x2, [], rfl, rfl, k _ ((en.setD r1 i).setD r2 j) ?_⟩
  show ((((σ.set i _).set j _).set j _).set i _) = (σ.set j _).set i _
  rw [List.set_set, List.set_comm _ _ (Ne.symm hij), List.set_set, List.set_comm _ _ hij]⟩

/-! ### for -/
/-- the turns: Kn behind the last one (or a break), P at what leaves -/
def Loop (X : Cx) (E : WK) (body : List Stmt) (asg : List Slot → D → List Slot → Prop) (Kn : List Slot → List MO → Prop) (P : Out → Prop) : List D → List Slot → List MO → Prop
  | [], env, M => Kn env M
  | d :: ds, env, M => ∃ env' Pb, asg env d env' ∧ BS X E env' M body Pb ∧ ∀ o, Pb o → match o with
    | .nx e m => Loop X E body asg Kn P ds e m
    | .ct e m => Loop X E body asg Kn P ds e m
    | .bk e m => Kn e m
    | o => P o
def tAnyB (X : Cx) (E : WK) (body : List Stmt) : TS := fun Dn σ H => ∃ (i : {p : List Slot × List MO × (Out → Prop) // BS X E p.1 p.2.1 body p.2.2}), tS X.K E i.val.1 i.val.2.1 i.val.2.2 Dn σ H
theorem tAnyB.ok : PSs X body (tAnyB X E body) := PSs.ex fun i => i.property
theorem ss_for {tg iter : Expr} {g : TG} {vs : List Nat} {asg : List Slot → D → List Slot → Prop} {Pd : List D → Prop} (hp : PassesOwn (model X.prog X.w) X.A X.env X.xe) (hc : X.calm = true) (hi : IV X E env M tg iter Pd PX) (hg : PG X tg g) (ht : Tg X.K g vs asg)
    (hl : ∀ ds, Pd ds → Loop X E body asg (fun e m => BS X E e m rest P) P ds env M) (hx : ∀ c, PX c → P (.xx c env M)) (hs : ∀ x, foldedSetIterable iter X.env x = pure x := by intro _; rfl) : BS X E env M (.For tg iter body [] pos :: rest) P := by
  refine PSs.imp (pss_cons (ps_for hp hc hi hg (tAnyB.ok (E := E)) hs) (tRest.ok (E := E) (P := P))) fun Dn σ H ⟨S, as, ok, en, k⟩ => ?_
  refine ⟨S, as, ok, en, fun ds J S1 H1 pd p1 ok1 wd => ?_, fun c S2 H2 p p2 ok2 => (k _ (hx c p)).exc p2 ok2 (en.ex p2.ex)⟩
  obtain ⟨G, Y, w, hG, hY⟩ := wd.ex
  have turnEq : ∀ i d, ds[i]? = some d → ds.drop i = d :: ds.drop (i + 1) := fun i d h => by
    obtain ⟨hlt, e⟩ := List.getElem?_eq_some_iff.mp h
    rw [← e]; exact List.drop_eq_getElem_cons hlt
  refine for_it (D := { Dn with nx := tRest X E rest P Dn }) (tb := tAnyB X E body) (g := g) w (fun i σ' H' => ∃ env' M' S' ns, Loop X E body asg (fun e m => BS X E e m rest P) P (ds.drop i) env' M' ∧ Post as S H S' H' ∧ Ex S1 S' ∧ (∀ a ∈ ns, H a = none) ∧ Ok X.K S' (as ++ ns) M' H' ∧ EnvR X.K S' (as ++ ns) env' σ')
    ⟨env, M, S1, [], by rw [List.drop_zero]; exact hl ds pd, p1, Ex.refl _, (fun _ z => nomatch z), by rw [List.append_nil]; exact ok1, by rw [List.append_nil]; exact en.ex p1.ex⟩
    (fun i σ' H' hi ⟨_, _, S', _, _, _, e, _, o, _⟩ => hG _ (e.trans o.ex)) ?_ ?_
  · rintro i x σ2 H2 H3 hi ⟨env', M', S', ns, lp, p2, eS, fr, ok2, en2⟩ y
    obtain ⟨S3, d, hd, e1, e2, e3, nw, rd⟩ := hY i S' H2 x H3 hi eS ok2.ex y
    rw [turnEq i d hd] at lp
    obtain ⟨env4, Pb, ha, hbs, lp⟩ := lp
    have ok3 : Ok X.K S3 (as ++ ns) M' H3 := ok2.grew e1 e2 e3 nw
    have p3 : Post as S H S3 H3 := p2.grow fr (Post.grew e1 e3 nw)
    refine ht.go S3 (as ++ ns) env' σ2 H3 d x _ env4 e2 (en2.ex e1) rd ha fun σ4 en4 _ => ?_
    refine ⟨⟨(env4, M', Pb), hbs⟩, S3, as ++ ns, ok3, en4, fun o po => ?_⟩
    have lo := lp o po
    have back : ∀ S5 n5 H5, Post (as ++ ns) S3 H3 S5 H5 → (∀ a ∈ n5, H3 a = none) → Post as S H S5 H5 ∧ Ex S1 S5 ∧ (∀ a ∈ ns ++ n5, H a = none) := fun S5 n5 H5 p5 f5 => by
      refine ⟨p3.grow fr p5, (eS.trans e1).trans p5.ex, fun a ha => ?_⟩
      rcases List.mem_append.mp ha with ha | ha
      · exact fr a ha
      · cases q : H a with
        | none => rfl
        | some u => exact absurd (f5 a ha) (p3.dom a (by rw [q]; exact fun z => nomatch z))
    cases o with
    | nx e m => exact fun σ5 S5 n5 H5 p5 f5 ok5 en5 => ⟨e, m, S5, ns ++ n5, lo, (back S5 n5 H5 p5 f5).1, (back S5 n5 H5 p5 f5).2.1, (back S5 n5 H5 p5 f5).2.2, by rw [← List.append_assoc]; exact ok5, by rw [← List.append_assoc]; exact en5⟩
    | ct e m => exact fun σ5 S5 n5 H5 p5 f5 ok5 en5 => ⟨e, m, S5, ns ++ n5, lo, (back S5 n5 H5 p5 f5).1, (back S5 n5 H5 p5 f5).2.1, (back S5 n5 H5 p5 f5).2.2, by rw [← List.append_assoc]; exact ok5, by rw [← List.append_assoc]; exact en5⟩
    | bk e m =>
      intro σ5 S5 n5 H5 p5 f5 ok5 en5
      refine ⟨⟨(e, m), lo⟩, S5, as ++ (ns ++ n5), by rw [← List.append_assoc]; exact ok5, by rw [← List.append_assoc]; exact en5, fun o' p' => (k o' p').after (back S5 n5 H5 p5 f5).1 (back S5 n5 H5 p5 f5).2.2⟩
    | rt _ _ => exact HOut.after p3 fr (HOut.ends rfl rfl rfl rfl (k _ lo)) |> HOut.ends rfl rfl rfl rfl
    | rn _ _ => exact HOut.after p3 fr (HOut.ends rfl rfl rfl rfl (k _ lo)) |> HOut.ends rfl rfl rfl rfl
    | xx _ _ _ => exact HOut.after p3 fr (HOut.ends rfl rfl rfl rfl (k _ lo)) |> HOut.ends rfl rfl rfl rfl
  · rintro σ2 H2 ⟨env', M', S', ns, lp, p2, eS, fr, ok2, en2⟩
    rw [List.drop_length] at lp
    exact ⟨⟨(env', M'), lp⟩, S', as ++ ns, ok2, en2, fun o' p' => (k o' p').after p2 fr⟩
end
end DL

set_option Elab.async false
set_option linter.all false
set_option maxRecDepth 100000
set_option maxHeartbeats 4000000
namespace DL
open PySem L2 Evl

/-! ### list comprehensions -/
inductive LcR (Pt : D → Bool → Prop) (Pe : D → D → Prop) : List D → List D → Prop where
  | nil : LcR Pt Pe [] []
  | keep {d r : D} {ds rs : List D} : Pt d true → Pe d r → LcR Pt Pe ds rs → LcR Pt Pe (d :: ds) (r :: rs)
  | skip {d : D} {ds rs : List D} : Pt d false → LcR Pt Pe ds rs → LcR Pt Pe (d :: ds) rs
section
variable {Pt : D → Bool → Prop} {Pe : D → D → Prop}
theorem LcR.keepE {d r : D} : ∀ {ds rs : List D}, LcR Pt Pe ds rs → Pt d true → Pe d r → LcR Pt Pe (ds ++ [d]) (rs ++ [r])
  | _, _, .nil, h1, h2 => .keep h1 h2 .nil
  | _, _, .keep a b t, h1, h2 => .keep a b (LcR.keepE t h1 h2)
  | _, _, .skip a t, h1, h2 => .skip a (LcR.keepE t h1 h2)
theorem LcR.skipE {d : D} : ∀ {ds rs : List D}, LcR Pt Pe ds rs → Pt d false → LcR Pt Pe (ds ++ [d]) rs
  | _, _, .nil, h1 => .skip h1 .nil
  | _, _, .keep a b t, h1 => .keep a b (LcR.skipE t h1)
  | _, _, .skip a t, h1 => .skip a (LcR.skipE t h1)
theorem LcR.len : ∀ {ds rs : List D}, LcR Pt Pe ds rs → rs.length ≤ ds.length
  | _, _, .nil => Nat.le_refl _
  | _, _, .keep a b t => Nat.succ_le_succ (LcR.len t)
  | _, _, .skip a t => Nat.le_succ_of_le (LcR.len t)
/-- no test, each item told by f -/
theorem LcR.map {f : D → D} : ∀ {ds rs : List D}, LcR (fun _ b => b = true) (fun d r => r = f d) ds rs → rs = ds.map f
  | _, _, .nil => rfl
  | _, _, .keep a b t => by rw [List.map_cons, LcR.map t, b]
  | _, _, .skip a t => nomatch a
/-- a told test -/
theorem LcR.fmap {f : D → D} {c : D → Bool} : ∀ {ds rs : List D}, LcR (fun d b => b = c d) (fun d r => r = f d) ds rs → rs = (ds.filter c).map f
  | _, _, .nil => rfl
  | _, _, .keep a b t => by rw [List.filter_cons_of_pos a.symm, List.map_cons, LcR.fmap t, b]
  | _, _, .skip a t => by rw [List.filter_cons_of_neg (by rw [← a]; exact Bool.false_ne_true), LcR.fmap t]
theorem LcR.all {Q : D → Prop} (h : ∀ d r, Pe d r → Q r) : ∀ {ds rs : List D}, LcR Pt Pe ds rs → ∀ r ∈ rs, Q r
  | _, _, .nil, r, m => nomatch m
  | _, _, .keep a b t, r, m => by
    rcases List.mem_cons.mp m with rfl | m
    · exact h _ _ b
    · exact LcR.all h t r m
  | _, _, .skip a t, r, m => LcR.all h t r m
theorem LcR.len_eq : ∀ {ds rs : List D}, LcR (fun _ b => b = true) Pe ds rs → rs.length = ds.length
  | _, _, .nil => rfl
  | _, _, .keep a b t => by rw [List.length_cons, List.length_cons, LcR.len_eq t]
  | _, _, .skip a t => nomatch a
end
theorem Ok.snoc {K : PySem.W.Frag} {S H : Hp} {as : List Addr} {M : List MO} {p : Addr} {m : MO} (ok : Ok K S as M H) (hp : p ∉ as) (hm : HasO K S H p m) : Ok K S (as ++ [p]) (M ++ [m]) H := by
  refine ⟨ok.ex, List.nodup_append.mpr ⟨ok.nd, by simp, fun a ha b hb => ?_⟩, ?_⟩
  · have e : b = p := by simpa using hb
    subst e
    rintro rfl
    exact hp ha
  · have go : ∀ {as : List Addr} {M : List MO}, OwnL K S H as M → OwnL K S H (as ++ [p]) (M ++ [m]) := by
      intro as
      induction as with
      | nil =>
        intro M h
        cases M with
        | nil => exact ⟨hm, trivial⟩
        | cons _ _ => exact h.elim
      | cons a r ih =>
        intro M h
        cases M with
        | nil => exact h.elim
        | cons m0 ms => exact ⟨h.1, ih h.2⟩
    exact go ok.own
section
variable {X : Cx} {E : WK} {env : List Slot} {M : List MO} {PX : Value → Prop} {pos : Pos}
abbrev E00 : WK := fun _ => E0
/-- the element's, the test's reading at any turn -/
def tEl (K : PySem.W.Frag) (env : List Slot) (M : List MO) (vs : List Nat) (asg : List Slot → D → List Slot → Prop) (Pd : List D → Prop) (Pt : D → Bool → Prop) (Pe : D → D → Prop) : TE := fun σ H Q =>
  ∃ (i : {p : D × List Slot // (∃ ds, Pd ds ∧ p.1 ∈ ds) ∧ Pt p.1 true ∧ asg (wipeE env vs) p.1 p.2}), tP K E00 i.val.2 M (Pe i.val.1) N0 σ H Q
def tTs (K : PySem.W.Frag) (env : List Slot) (M : List MO) (vs : List Nat) (asg : List Slot → D → List Slot → Prop) (Pd : List D → Prop) (Pt : D → Bool → Prop) : TT := fun σ H Q =>
  ∃ (i : {p : D × List Slot // (∃ ds, Pd ds ∧ p.1 ∈ ds) ∧ asg (wipeE env vs) p.1 p.2}), tT K E00 i.val.2 M (Pt i.val.1) N0 σ H Q
theorem lc_read {wi : TI} {g : TG} {vs : List Nat} {asg : List Slot → D → List Slot → Prop} {Pd : List D → Prop} {Pt : D → Bool → Prop} {Pe : D → D → Prop} {P : MO → Prop} {K : PySem.W.Frag} {σ : L2.St} {H : Hp} {Q : VK}
    (hi : ∀ R, tI K E env M Pd PX σ H R → wi σ H R) (ht : Tg K g vs asg) (hasg : ∀ ds d, Pd ds → d ∈ ds → ∃ env', asg (wipeE env vs) d env') (hlen : ∀ ds, Pd ds → ds.length ≤ 100000) (hP : ∀ ds rs, Pd ds → LcR Pt Pe ds rs → P (.ml rs))
    (q : tN K E env M P PX σ H Q) : tLc wi g (tTs K env M vs asg Pd Pt) (tEl K env M vs asg Pd Pt Pe) vs σ H Q := by
  obtain ⟨S, as, ok, en, k, x⟩ := q
  refine hi _ ⟨S, as, ok, en, fun ds J S1 H1 pd p1 ok1 wd => fun D0 hD => ?_, x⟩
  obtain ⟨G, Y, w, hG, hY⟩ := wd.ex
  have hD0 : H D0 = none := by
    cases e : H D0 with
    | none => rfl
    | some o => exact absurd hD (p1.dom D0 (by rw [e]; exact fun z => nomatch z))
  have hDa : D0 ∉ as := fun z => ok.mem z hD0
  have hS1 : S1 D0 = none := by
    cases e : S1 D0 with
    | none => rfl
    | some o => rw [ok1.ex D0 o e] at hD; cases hD
  have put : ∀ {S' : Hp} {H' : Hp} {o : HO}, Ok K S' as M H' → S' D0 = none → Ok K S' as M (upd H' D0 o) := fun {S' H' o} ok' hs => by
    refine ⟨fun a u h => ?_, ok'.nd, ok'.own.keep (Ex.refl _) (fun a ha u h => ?_) fun a _ z1 z2 => absurd z2 z1⟩
    · have : a ≠ D0 := by rintro rfl; rw [hs] at h; cases h
      rw [upd_ne this]; exact ok'.ex a u h
    · have : a ≠ D0 := by rintro rfl; exact hDa ha
      rw [upd_ne this]; exact h
  have putP : ∀ {S' : Hp} {H' : Hp} {o : HO}, Post as S H S' H' → Post as S H S' (upd H' D0 o) := fun {S' H' o} p' => by
    refine ⟨p'.ex, fun a u h n => ?_, fun a h => ?_, p'.new⟩
    · have : a ≠ D0 := by rintro rfl; rw [hD0] at h; cases h
      rw [upd_ne this]; exact p'.keep a u h n
    · by_cases e : a = D0
      · subst e; rw [upd_same]; exact fun z => nomatch z
      · rw [upd_ne e]; exact p'.dom a h
  refine lc_it w (fun i H' => ∃ S' rs vs', LcR Pt Pe (ds.take i) rs ∧ Post as S H S' H' ∧ Ex S1 S' ∧ Ok K S' as M H' ∧ H' D0 = some (.lst vs') ∧ RepL K S' rs vs' ∧ S' D0 = none)
    ⟨S1, [], [], by rw [List.take_zero]; exact .nil, putP p1, Ex.refl _, put ok1 hS1, upd_same, RepL.nil, hS1⟩ (fun i H' hi ⟨S', _, _, _, _, e, o, _⟩ => hG _ (e.trans o.ex)) ?_ ?_
  · rintro i x0 H2 H3 hi ⟨S', rs, vs', lr, p2, eS, ok2, hl, rl, hs⟩ y
    obtain ⟨S3, d, hd, e1, e2, e3, nw, rd⟩ := hY i S' H2 x0 H3 hi eS ok2.ex y
    have hmem : d ∈ ds := List.mem_of_getElem? hd
    have htake : ds.take (i + 1) = ds.take i ++ [d] := by
      obtain ⟨hlt, e⟩ := List.getElem?_eq_some_iff.mp hd
      rw [← e]; exact (List.take_append_getElem hlt).symm
    have ok3 : Ok K S3 as M H3 := ok2.grew e1 e2 e3 nw
    have p3 : Post as S H S3 H3 := p2.trans (Post.grew e1 e3 nw)
    have hl3 : H3 D0 = some (.lst vs') := e3 D0 _ hl
    have hs3 : S3 D0 = none := by
      cases e : S3 D0 with
      | none => rfl
      | some u =>
        have := nw D0 (by rw [e]; exact fun z => nomatch z) hs
        rw [hl] at this; cases this
    obtain ⟨env', ha⟩ := hasg ds d pd hmem
    refine ht.go S3 as (wipeE env vs) (L2.wipe σ vs) H3 d x0 _ env' e2 (((en.ex p1.ex).ex (eS.trans e1)).wipe vs) rd ha fun σ2 en2 hw => ?_
    refine ⟨?_, ⟨⟨(d, env'), ⟨ds, pd, hmem⟩, ha⟩, S3, as, ok3, en2, fun b S4 H4 pb p4 ok4 => ?_, fun _ _ _ z => z.elim⟩⟩
    · rw [hw]
      have ww : ∀ (vs : List Nat) (τ : L2.St), L2.wipe (L2.wipe τ vs) vs = L2.wipe τ vs := by
        have sw : ∀ (vs : List Nat) (τ : L2.St) (v : Nat), L2.wipe (τ.set v none) vs = (L2.wipe τ vs).set v none := by
          intro vs
          induction vs with
          | nil => intro τ v; rfl
          | cons u r ih =>
            intro τ v
            show (L2.wipe (τ.set v none) r).set u none = ((L2.wipe τ r).set u none).set v none
            rw [ih]
            by_cases h : u = v
            · subst h; rfl
            · rw [List.set_comm _ _ h]
        intro vs
        induction vs with
        | nil => intro τ; rfl
        | cons u r ih =>
          intro τ
          show (L2.wipe ((L2.wipe τ r).set u none) r).set u none = (L2.wipe τ r).set u none
          rw [sw, ih, List.set_set]
      exact ww vs σ
    · have hl4 : H4 D0 = some (.lst vs') := p4.keep D0 _ hl3 hDa
      have hs4 : S4 D0 = none := by
        cases e : S4 D0 with
        | none => rfl
        | some u =>
          have := p4.new D0 (by rw [e]; exact fun z => nomatch z) hs3
          rw [hl3] at this; cases this
      have lenr : rs.length ≤ 100000 := Nat.le_trans lr.len (Nat.le_trans (by rw [List.length_take]; omega) (hlen ds pd))
      cases b with
      | false => exact iteF ⟨S4, rs, vs', by rw [htake]; exact lr.skipE pb, p3.trans p4, (eS.trans e1).trans p4.ex, ok4, hl4, rl.mono (e1.trans p4.ex), hs4⟩
      | true =>
        refine iteT ⟨⟨(d, env'), ⟨ds, pd, hmem⟩, pb, ha⟩, S4, as, ok4, en2.ex p4.ex, fun r y S5 H5 pe p5 ok5 ry => ?_, fun _ _ _ z => z.elim⟩
        have hl5 : H5 D0 = some (.lst vs') := p5.keep D0 _ hl4 hDa
        have hs5 : S5 D0 = none := by
          cases e : S5 D0 with
          | none => rfl
          | some u =>
            have := p5.new D0 (by rw [e]; exact fun z => nomatch z) hs4
            rw [hl4] at this; cases this
        refine ⟨vs', hl5, ?_, S5, rs ++ [r], vs' ++ [y], by rw [htake]; exact lr.keepE pb pe, putP ((p3.trans p4).trans p5), ((eS.trans e1).trans p4.ex).trans p5.ex, put ok5 hs5, upd_same, ?_, hs5⟩
        · rw [rl.length]
          have hi' : i < 100000 := Nat.lt_of_lt_of_le hi (hlen ds pd)
          have : rs.length ≤ i := Nat.le_trans lr.len (by rw [List.length_take]; omega)
          exact sz_lt (by omega)
        · exact (rl.mono ((e1.trans p4.ex).trans p5.ex)).append (RepL.one ry)
  · rintro H2 ⟨S', rs, vs', lr, p2, eS, ok2, hl, rl, hs⟩
    rw [List.take_length] at lr
    exact k (.ml rs) D0 S' H2 (hP ds rs pd lr) p2 hD0 (ok2.snoc hDa ⟨hs, vs', hl, rl⟩)
/-- what a comprehension asks of its element and its test -/
structure Elt (X : Cx) (env : List Slot) (M : List MO) (scope : Scope) (vs : List Nat) (asg : List Slot → D → List Slot → Prop) (elt : Expr) (ifs : List Expr) (Pd : List D → Prop) (Pt : D → Bool → Prop) (Pe : D → D → Prop) : Prop where
  has : ∀ ds d, Pd ds → d ∈ ds → ∃ env', asg (wipeE env vs) d env'
  len : ∀ ds, Pd ds → ds.length ≤ 100000
  el : ∀ ds d env', Pd ds → d ∈ ds → Pt d true → asg (wipeE env vs) d env' → ∀ (s : Shared) (H : Hp) (C : Addr) (cl : List (Str × Addr)) (fp : List Addr), EV (X.blk s H scope (compEnvC scope cl C X.env) fp) E00 env' M elt (Pe d) N0
  ts : ∀ ds d env', Pd ds → d ∈ ds → asg (wipeE env vs) d env' → ∀ (s : Shared) (H : Hp) (C : Addr) (cl : List (Str × Addr)) (fp : List Addr), PTs (X.blk s H scope (compEnvC scope cl C X.env) fp) ifs (tT X.K E00 env' M (Pt d) N0)
theorem ts_nil {X : Cx} {env : List Slot} {M : List MO} {P : Bool → Prop} (h : P true) : PTs X [] (tT X.K E00 env M P N0) := PTs.imp pts_nil fun σ H Q ⟨S, as, ok, en, k, x⟩ => k true S H h Post.refl ok
theorem n_lc {elt tg iter : Expr} {ifs : List Expr} {scope : Scope} {own : List (Str × Nat)} {g : TG} {asg : List Slot → D → List Slot → Prop} {Pd : List D → Prop} {Pt : D → Bool → Prop} {Pe : D → D → Prop} {P : MO → Prop}
    (hc : X.calm = true) (hN : X.N.Nodup) (hi : IV X E env M tg iter Pd PX) (ok : BlkOk X.N X.env.scope scope own) (hg : ∀ (s : Shared) (H : Hp) (C : Addr) (cl : List (Str × Addr)) (fp : List Addr), PG (X.blk s H scope (compEnvC scope cl C X.env) fp) tg g)
    (ht : Tg X.K g (own.map (·.2)) asg) (he : Elt X env M scope (own.map (·.2)) asg elt ifs Pd Pt Pe) (hP : ∀ ds rs, Pd ds → LcR Pt Pe ds rs → P (.ml rs)) (hs : ∀ x, foldedSetIterable iter X.env x = pure x := by intro _; rfl) :
    NV X E env M (.ListComp elt [⟨tg, iter, ifs, 0⟩] scope pos) P PX :=
  PE.imp (pe_lc hc hN hi ok hg (tt := tTs X.K env M (own.map (·.2)) asg Pd Pt) (te := tEl X.K env M (own.map (·.2)) asg Pd Pt Pe)
    (fun s H C cl fp => PTs.ex fun i => by obtain ⟨p, ⟨ds, pd, hm⟩, ha⟩ := i; exact he.ts ds p.1 p.2 pd hm ha s H C cl fp)
    (fun s H C cl fp => PE.ex fun i => by obtain ⟨p, ⟨ds, pd, hm⟩, hpt, ha⟩ := i; exact he.el ds p.1 p.2 pd hm hpt ha s H C cl fp) hs) fun σ H Q q => lc_read (fun _ z => z) ht he.has he.len hP q
theorem e_lc {elt tg iter : Expr} {ifs : List Expr} {scope : Scope} {own : List (Str × Nat)} {g : TG} {asg : List Slot → D → List Slot → Prop} {Pd : List D → Prop} {Pt : D → Bool → Prop} {Pe : D → D → Prop} {P : D → Prop}
    (hc : X.calm = true) (hN : X.N.Nodup) (hi : IV X E env M tg iter Pd PX) (ok : BlkOk X.N X.env.scope scope own) (hg : ∀ (s : Shared) (H : Hp) (C : Addr) (cl : List (Str × Addr)) (fp : List Addr), PG (X.blk s H scope (compEnvC scope cl C X.env) fp) tg g)
    (ht : Tg X.K g (own.map (·.2)) asg) (he : Elt X env M scope (own.map (·.2)) asg elt ifs Pd Pt Pe) (hP : ∀ ds rs, Pd ds → LcR Pt Pe ds rs → P (.lst rs)) (hs : ∀ x, foldedSetIterable iter X.env x = pure x := by intro _; rfl) :
    EV X E env M (.ListComp elt [⟨tg, iter, ifs, 0⟩] scope pos) P PX :=
  EV.mono (NV.frz (P := fun rs => P (.lst rs)) (n_lc hc hN hi ok hg ht he (fun ds rs pd l => ⟨rs, rfl, hP ds rs pd l⟩) hs)) fun d ⟨ds, e, p⟩ => by subst e; exact p
/-- name = [..] on one line -/
theorem ss_lcN {i : Nat} {y : Str} {py spos : Pos} {elt tg iter : Expr} {ifs : List Expr} {scope : Scope} {own : List (Str × Nat)} {g : TG} {asg : List Slot → D → List Slot → Prop} {Pd : List D → Prop} {Pt : D → Bool → Prop} {Pe : D → D → Prop} {P : Out → Prop} {rest : List Stmt}
    (hc : X.calm = true) (hN : X.N.Nodup) (hy : X.N[i]? = some y) (hyl : X.env.scope.names.lookup y = some .local) (hsw : swapsWith (.ListComp elt [⟨tg, iter, ifs, 0⟩] scope pos) (some (.Name y py)) spos.line X.env = pure true)
    (hi : IV X E env M tg iter Pd PX) (ok : BlkOk X.N X.env.scope scope own) (hg : ∀ (s : Shared) (H : Hp) (C : Addr) (cl : List (Str × Addr)) (fp : List Addr), PG (X.blk s H scope (compEnvC scope cl C X.env) fp) tg g)
    (ht : Tg X.K g (own.map (·.2)) asg) (he : Elt X env M scope (own.map (·.2)) asg elt ifs Pd Pt Pe) (hr : ∀ ds rs, Pd ds → LcR Pt Pe ds rs → BS X E (env.set i (.ptr M.length)) (M ++ [.ml rs]) rest P) (hx : ∀ c, PX c → P (.xx c env M)) (hs : ∀ x, foldedSetIterable iter X.env x = pure x := by intro _; rfl) :
    BS X E env M (.Assign [.Name y py] (.ListComp elt [⟨tg, iter, ifs, 0⟩] scope pos) spos :: rest) P := by
  have h := ps_setLc hc hN hy hyl hsw hi ok hg (tt := tTs X.K env M (own.map (·.2)) asg Pd Pt) (te := tEl X.K env M (own.map (·.2)) asg Pd Pt Pe)
    (fun s H C cl fp => PTs.ex fun i => by obtain ⟨p, ⟨ds, pd, hm⟩, ha⟩ := i; exact he.ts ds p.1 p.2 pd hm ha s H C cl fp)
    (fun s H C cl fp => PE.ex fun i => by obtain ⟨p, ⟨ds, pd, hm⟩, hpt, ha⟩ := i; exact he.el ds p.1 p.2 pd hm hpt ha s H C cl fp) hs
  refine ss_cons (P1 := fun o => (∃ ds rs, Pd ds ∧ LcR Pt Pe ds rs ∧ o = .nx (env.set i (.ptr M.length)) (M ++ [.ml rs])) ∨ ∃ c, PX c ∧ o = .xx c env M) (PS.imp h fun Dn σ H ⟨S, as, ok0, en, k⟩ => ?_) ?_ ?_
  · refine lc_read (P := fun m => ∃ ds rs, Pd ds ∧ LcR Pt Pe ds rs ∧ m = .ml rs) (fun _ z => z) ht he.has he.len (fun ds rs pd l => ⟨ds, rs, pd, l, rfl⟩) ⟨S, as, ok0, en, fun m p S2 H2 pm p2 hp ok2 => ?_, fun c S2 H2 p p2 ok2 => (k _ (.inr ⟨c, p, rfl⟩)).exc p2 ok2 (en.ex p2.ex)⟩
    obtain ⟨ds, rs, pd, l, rfl⟩ := pm
    refine (k _ (.inl ⟨ds, rs, pd, l, rfl⟩)) _ S2 [p] H2 p2 (fun a ha => by rw [List.mem_singleton.mp ha]; exact hp) ok2 ?_
    refine EnvR.set (s := .ptr M.length) (o := some (.ref p)) ⟨p, ?_, rfl⟩ i (en.mono p2.ex fun k a hk => ?_)
    · rw [← ok0.own.length]; simp
    · rw [List.getElem?_append_left (List.getElem?_eq_some_iff.mp hk).1]; exact hk
  · rintro env1 M1 (⟨ds, rs, pd, l, e1⟩ | ⟨c, _, e1⟩)
    · cases e1; exact hr ds rs pd l
    · cases e1
  · rintro o (⟨ds, rs, pd, l, rfl⟩ | ⟨c, p, rfl⟩) hn
    · cases hn
    · exact hx c p
/-- .. the list not changed any more: a datum -/
theorem ss_lc {i : Nat} {y : Str} {py spos : Pos} {elt tg iter : Expr} {ifs : List Expr} {scope : Scope} {own : List (Str × Nat)} {g : TG} {asg : List Slot → D → List Slot → Prop} {Pd : List D → Prop} {Pt : D → Bool → Prop} {Pe : D → D → Prop} {P : Out → Prop} {rest : List Stmt}
    (hc : X.calm = true) (hN : X.N.Nodup) (hy : X.N[i]? = some y) (hyl : X.env.scope.names.lookup y = some .local) (hsw : swapsWith (.ListComp elt [⟨tg, iter, ifs, 0⟩] scope pos) (some (.Name y py)) spos.line X.env = pure true)
    (hi : IV X E env M tg iter Pd PX) (ok : BlkOk X.N X.env.scope scope own) (hg : ∀ (s : Shared) (H : Hp) (C : Addr) (cl : List (Str × Addr)) (fp : List Addr), PG (X.blk s H scope (compEnvC scope cl C X.env) fp) tg g)
    (ht : Tg X.K g (own.map (·.2)) asg) (he : Elt X env M scope (own.map (·.2)) asg elt ifs Pd Pt Pe) (hr : ∀ ds rs, Pd ds → LcR Pt Pe ds rs → BS X E (env.set i (.dat (.lst rs))) M rest P) (hx : ∀ c, PX c → P (.xx c env M)) (hs : ∀ x, foldedSetIterable iter X.env x = pure x := by intro _; rfl) :
    BS X E env M (.Assign [.Name y py] (.ListComp elt [⟨tg, iter, ifs, 0⟩] scope pos) spos :: rest) P := by
  have h := ps_setLc hc hN hy hyl hsw hi ok hg (tt := tTs X.K env M (own.map (·.2)) asg Pd Pt) (te := tEl X.K env M (own.map (·.2)) asg Pd Pt Pe)
    (fun s H C cl fp => PTs.ex fun i => by obtain ⟨p, ⟨ds, pd, hm⟩, ha⟩ := i; exact he.ts ds p.1 p.2 pd hm ha s H C cl fp)
    (fun s H C cl fp => PE.ex fun i => by obtain ⟨p, ⟨ds, pd, hm⟩, hpt, ha⟩ := i; exact he.el ds p.1 p.2 pd hm hpt ha s H C cl fp) hs
  refine ss_cons (P1 := fun o => (∃ ds rs, Pd ds ∧ LcR Pt Pe ds rs ∧ o = .nx (env.set i (.dat (.lst rs))) M) ∨ ∃ c, PX c ∧ o = .xx c env M) (PS.imp h fun Dn σ H ⟨S, as, ok0, en, k⟩ => ?_) ?_ ?_
  · refine lc_read (P := fun m => ∃ ds rs, Pd ds ∧ LcR Pt Pe ds rs ∧ m = .ml rs) (fun _ z => z) ht he.has he.len (fun ds rs pd l => ⟨ds, rs, pd, l, rfl⟩) ⟨S, as, ok0, en, fun m p S2 H2 pm p2 hp ok2 => ?_, fun c S2 H2 p p2 ok2 => (k _ (.inr ⟨c, p, rfl⟩)).exc p2 ok2 (en.ex p2.ex)⟩
    obtain ⟨ds, rs, pd, l, rfl⟩ := pm
    -- frozen
    have hlen := ok0.own.length
    obtain ⟨b, hb, hS, vs, hv, r⟩ := ok2.own.get (k := as.length) (m := .ml rs) (by rw [hlen]; simp)
    have e : b = p := by simpa using hb.symm
    subst e
    have nb : b ∉ as := fun z => ok0.mem z hp
    have e1 : Ex S2 (upd S2 b (.lst vs)) := Ex.new hS
    have e2 : Ex (upd S2 b (.lst vs)) H2 := fun c o q => by
      by_cases hc : c = b
      · subst hc; rw [upd_same] at q; rw [hv]; exact q
      · rw [upd_ne hc] at q; exact ok2.ex c o q
    have nw : ∀ a, (upd S2 b (.lst vs)) a ≠ none → S2 a = none → a = b := fun a q1 q2 => by
      by_cases hc : a = b
      · exact hc
      · rw [upd_ne hc] at q1; exact absurd q2 q1
    have go : ∀ {as' : List Addr} {M' : List MO}, b ∉ as' → OwnL X.K S2 H2 (as' ++ [b]) (M' ++ [.ml rs]) → OwnL X.K (upd S2 b (.lst vs)) H2 as' M' := by
      intro as'
      induction as' with
      | nil =>
        intro M' _ h
        cases M' with
        | nil => trivial
        | cons m ms =>
          cases ms with
          | nil => exact h.2.elim
          | cons _ _ => exact h.2.elim
      | cons a r ih =>
        intro M' hn h
        cases M' with
        | nil =>
          cases r with
          | nil => exact h.2.elim
          | cons _ _ => exact h.2.elim
        | cons m ms =>
          refine ⟨h.1.keep e1 (fun _ z => z) (fun z1 z2 => ?_), ih (fun z => hn (List.mem_cons_of_mem _ z)) h.2⟩
          exact absurd (nw a z1 z2) (fun z => hn (z ▸ List.mem_cons_self))
    refine (k _ (.inl ⟨ds, rs, pd, l, rfl⟩)).go (S1 := upd S2 b (.lst vs)) ⟨p2.ex.trans e1, p2.keep, p2.dom, fun a q1 q2 => ?_⟩ ⟨e2, ok0.nd, go nb ok2.own⟩ ((en.ex (p2.ex.trans e1)).setD (d := .lst rs) (v := .ref b) ⟨b, vs, rfl, sq_of upd_same, r.mono e1⟩ i)
    by_cases hc : a = b
    · subst hc; exact hp
    · rw [upd_ne hc] at q1; exact p2.new a q1 q2
  · rintro env1 M1 (⟨ds, rs, pd, l, e1⟩ | ⟨c, _, e1⟩)
    · cases e1; exact hr ds rs pd l
    · cases e1
  · rintro o (⟨ds, rs, pd, l, rfl⟩ | ⟨c, p, rfl⟩) hn
    · cases hn
    · exact hx c p
end
end DL

set_option Elab.async false
set_option linter.all false
set_option maxRecDepth 100000
set_option maxHeartbeats 4000000
namespace DL
open PySem PySem.Spec PyProof.Rows L2 Evl

/-! ### what defs promise -/
/-- data in, data out; or an exception -/
def spF (K : PySem.W.Frag) (R : List D → (D → Prop) → (Value → Prop) → Prop) : Sp := fun vs H Q E => ∃ S ds Pf PXf, Ex S H ∧ RepL K S ds vs ∧ R ds Pf PXf ∧
  (∀ d v S2 H2, Pf d → Post [] S H S2 H2 → Ex S2 H2 → Rep K S2 d v → Q v H2) ∧ (∀ c S2 H2, PXf c → Post [] S H S2 H2 → Ex S2 H2 → E c none H2)
/-- data in, a new object of the asker's own out -/
def spN (K : PySem.W.Frag) (R : List D → (MO → Prop) → Prop) : Sp := fun vs H Q _ => ∃ S ds Pf, Ex S H ∧ RepL K S ds vs ∧ R ds Pf ∧
  (∀ m p S2 H2, Pf m → Post [] S H S2 H2 → H p = none → Ok K S2 [p] [m] H2 → Q (.ref p) H2)
/-- the well first, then data in; data out -/
def spW (K : PySem.W.Frag) (R : List D → (D → Prop) → Prop) : Sp := fun vs H Q _ => ∃ S a vs' ds Pf, vs = .ref a :: vs' ∧ Ok K S [a] [.well] H ∧ RepL K S ds vs' ∧ R ds Pf ∧
  (∀ d v S2 H2, Pf d → Post [a] S H S2 H2 → Ok K S2 [a] [.well] H2 → Rep K S2 d v → Q v H2)
/-- a def of the module keeps its promise -/
structure Has (P : Program) (w : World) (K : PySem.W.Frag) (mg : Str → Option Value) (base : Heap) (CX : CXT) (name : Str) (ps : List Str) (k : Nat) (sp : Sp) : Prop where
  ex : ∃ f fd, mg name = some (.ref f) ∧ PySem.W.keepIn K (.ref f) = true ∧ Binds K fd ps [] ∧ FnOk P w K mg base CX k f fd ps sp
theorem Has.mono {P : Program} {w : World} {K : PySem.W.Frag} {mg : Str → Option Value} {base : Heap} {CX : CXT} {name : Str} {ps : List Str} {k k' : Nat} {sp : Sp} (h : Has P w K mg base CX name ps k sp) (hk : k ≤ k') : Has P w K mg base CX name ps k' sp := by
  obtain ⟨f, fd, a, b, c, d⟩ := h.ex
  exact ⟨f, fd, a, b, c, d.mono hk⟩

section
variable {X : Cx} {E : WK} {env : List Slot} {M : List MO} {P : D → Prop} {PX : Value → Prop} {a : Expr} {es : List Expr} {pos p : Pos} {name : Str} {ps : List Str} {k : Nat} {Pa : List Slot → Prop}
theorem e_call0 {R : List D → (D → Prop) → (Value → Prop) → Prop} (h : Has X.prog X.w X.K X.mg X.base CX0 name ps k (spF X.K R)) (hr : Room k X.A) (hg : Gl X name) (ha : AV X E env M (a :: es) Pa PX)
    (hR : ∀ sl, Pa sl → ∃ ds Pf, sl = ds.map .dat ∧ R ds Pf N0 ∧ ∀ d, Pf d → P d)
    (hdb : (name == ("__debug__" : Str)) = false := by decide) (he : starEach (a :: es) X.env = (false, eval a X.env) :: starEach es X.env := by rfl) (hpl : (backTo pos (starEach es X.env)).any (·.1) = false := by rfl) : EV X E env M (.Call (.Name name p) (a :: es) [] pos) P PX := by
  obtain ⟨f, fd, hm, hk, hb, F⟩ := h.ex
  refine PE.imp (pe_call F hr hg hm hk hb .nil pass0 ha hdb he hpl) fun σ H Q ⟨S, as, ok, en, kk, x⟩ => ⟨S, as, ok, en, fun sl vs S1 H1 pa p1 ok1 r1 => ?_, x⟩
  obtain ⟨ds, Pf, rfl, hr', hp⟩ := hR sl pa
  refine ⟨S1, ds, Pf, N0, ok1.ex, by rw [List.append_nil]; exact r1.dats, hr', fun d v S2 H2 pf p2 e2 r => ?_, fun _ _ _ z => z.elim⟩
  exact kk d v S2 H2 (hp d pf) (p1.trans (p2.sub fun _ z => nomatch z)) ⟨e2, ok1.nd, ok1.own.keep p2.ex (fun b _ o q => p2.keep b o q fun z => nomatch z) fun b _ => p2.new b⟩ r
theorem e_callX {R : List D → (D → Prop) → (Value → Prop) → Prop} (h : Has X.prog X.w X.K X.mg X.base (L2.CX X.prog X.w) name ps k (spF X.K R)) (tk : Takes X fun c d σ H => E σ c d H) (hr : Room k X.A) (hg : Gl X name) (ha : AV X E env M (a :: es) Pa PX)
    (hR : ∀ sl, Pa sl → ∃ ds Pf PXf, sl = ds.map .dat ∧ R ds Pf PXf ∧ (∀ d, Pf d → P d) ∧ ∀ c, PXf c → PX c)
    (hdb : (name == ("__debug__" : Str)) = false := by decide) (he : starEach (a :: es) X.env = (false, eval a X.env) :: starEach es X.env := by rfl) (hpl : (backTo pos (starEach es X.env)).any (·.1) = false := by rfl) : EV X E env M (.Call (.Name name p) (a :: es) [] pos) P PX := by
  obtain ⟨f, fd, hm, hk, hb, F⟩ := h.ex
  refine PE.imp (pe_callS F hr hg hm hk hb (fun σ => passAt tk σ) ha hdb he hpl) fun σ H Q ⟨S, as, ok, en, kk, x⟩ => ⟨S, as, ok, en, fun sl vs S1 H1 pa p1 ok1 r1 => ?_, x⟩
  obtain ⟨ds, Pf, PXf, rfl, hr', hp, hpx⟩ := hR sl pa
  have back : ∀ S2 H2, Post [] S1 H1 S2 H2 → Ex S2 H2 → Ok X.K S2 as M H2 := fun S2 H2 p2 e2 => ⟨e2, ok1.nd, ok1.own.keep p2.ex (fun b _ o q => p2.keep b o q fun z => nomatch z) fun b _ => p2.new b⟩
  exact ⟨S1, ds, Pf, PXf, ok1.ex, r1.dats, hr', fun d v S2 H2 pf p2 e2 r => kk d v S2 H2 (hp d pf) (p1.trans (p2.sub fun _ z => nomatch z)) (back S2 H2 p2 e2) r,
    fun c S2 H2 pc p2 e2 => x c S2 H2 (hpx c pc) (p1.trans (p2.sub fun _ z => nomatch z)) (back S2 H2 p2 e2)⟩
theorem n_call0 {R : List D → (MO → Prop) → Prop} {P : MO → Prop} (h : Has X.prog X.w X.K X.mg X.base CX0 name ps k (spN X.K R)) (hr : Room k X.A) (hg : Gl X name) (ha : AV X E env M (a :: es) Pa PX)
    (hR : ∀ sl, Pa sl → ∃ ds Pf, sl = ds.map .dat ∧ R ds Pf ∧ ∀ m, Pf m → P m)
    (hdb : (name == ("__debug__" : Str)) = false := by decide) (he : starEach (a :: es) X.env = (false, eval a X.env) :: starEach es X.env := by rfl) (hpl : (backTo pos (starEach es X.env)).any (·.1) = false := by rfl) : NV X E env M (.Call (.Name name p) (a :: es) [] pos) P PX := by
  obtain ⟨f, fd, hm, hk, hb, F⟩ := h.ex
  refine PE.imp (pe_call F hr hg hm hk hb .nil pass0 ha hdb he hpl) fun σ H Q ⟨S, as, ok, en, kk, x⟩ => ⟨S, as, ok, en, fun sl vs S1 H1 pa p1 ok1 r1 => ?_, x⟩
  obtain ⟨ds, Pf, rfl, hr', hp⟩ := hR sl pa
  refine ⟨S1, ds, Pf, ok1.ex, by rw [List.append_nil]; exact r1.dats, hr', fun m q S2 H2 pf p2 hq ok2 => ?_⟩
  have hq0 : H q = none := by
    cases e : H q with
    | none => rfl
    | some o => exact absurd hq (p1.dom q (by rw [e]; exact fun z => nomatch z))
  have ok3 : Ok X.K S2 as M H2 := ⟨ok2.ex, ok1.nd, ok1.own.keep p2.ex (fun b _ o q => p2.keep b o q fun z => nomatch z) fun b _ => p2.new b⟩
  exact kk m q S2 H2 (hp m pf) (p1.trans (p2.sub fun _ z => nomatch z)) hq0 (ok3.snoc (fun z => ok1.mem z hq) ok2.own.1)
/-- a def that draws from the well -/
theorem e_callW {R : List D → (D → Prop) → Prop} {j : Nat} (h : Has X.prog X.w X.K X.mg X.base CX0 name ps k (spW X.K R)) (hr : Room k X.A) (hg : Gl X name) (ha : AV X E env M (a :: es) Pa PX) (hj : M[j]? = some .well)
    (hR : ∀ sl, Pa sl → ∃ ds Pf, sl = .ptr j :: ds.map .dat ∧ R ds Pf ∧ ∀ d, Pf d → P d)
    (hdb : (name == ("__debug__" : Str)) = false := by decide) (he : starEach (a :: es) X.env = (false, eval a X.env) :: starEach es X.env := by rfl) (hpl : (backTo pos (starEach es X.env)).any (·.1) = false := by rfl) : EV X E env M (.Call (.Name name p) (a :: es) [] pos) P PX := by
  obtain ⟨f, fd, hm, hk, hb, F⟩ := h.ex
  refine PE.imp (pe_call F hr hg hm hk hb .nil pass0 ha hdb he hpl) fun σ H Q ⟨S, as, ok, en, kk, x⟩ => ⟨S, as, ok, en, fun sl vs S1 H1 pa p1 ok1 r1 => ?_, x⟩
  obtain ⟨ds, Pf, rfl, hr', hp⟩ := hR sl pa
  obtain ⟨v, t, rfl, ⟨b, hb1, hb2⟩, rd⟩ := r1
  obtain rfl : v = .ref b := Option.some.inj hb2
  obtain ⟨b', hb', hw⟩ := ok1.own.get hj
  obtain rfl : b' = b := Option.some.inj (hb'.symm.trans hb1)
  refine ⟨S1, b', t, ds, Pf, by rw [List.append_nil], ⟨ok1.ex, by simp, hw, trivial⟩, rd.dats, hr', fun d v S2 H2 pf p2 ok2 r => ?_⟩
  refine kk d v S2 H2 (hp d pf) (p1.trans (p2.sub fun z hz => by rw [List.mem_singleton.mp hz]; exact List.mem_of_getElem? hb1)) ⟨ok2.ex, ok1.nd, ?_⟩ r
  have := OwnL.upd (m := MO.well) (k := j) p2.ex ok1.nd ok1.own hb1 ok2.own.1 (fun c _ hc o q => p2.keep c o q fun z => hc (List.mem_singleton.mp z)) fun c _ => p2.new c
  rwa [show M.set j MO.well = M from List.ext_getElem? fun i => by
    rw [List.getElem?_set]
    split
    · rename_i e
      subst e
      split
      · exact hj.symm
      · rename_i hn
        rw [List.getElem?_eq_none (by omega)]
    · rfl] at this
end

/-! ### a def's body -/
def outF (Pf : D → Prop) (PXf : Value → Prop) : Out → Prop
  | .rt d _ => Pf d
  | .nx _ _ => Pf .non
  | .rn k M => ∃ ds, M[k]? = some (.ml ds) ∧ Pf (.lst ds)
  | .xx c _ _ => PXf c
  | _ => False
def outN (Pf : MO → Prop) : Out → Prop
  | .rn k M => ∃ m, M[k]? = some m ∧ m ≠ .gone ∧ Pf m
  | _ => False
def outW (Pf : D → Prop) : Out → Prop
  | .rt d M => Pf d ∧ M[0]? = some .well
  | .nx _ M => Pf .non ∧ M[0]? = some .well
  | .rn k M => (∃ ds, M[k]? = some (.ml ds) ∧ Pf (.lst ds)) ∧ 0 < k ∧ M[0]? = some .well
  | _ => False
def env0 (N : List Str) (sl : List Slot) : List Slot := sl ++ List.replicate (N.length - sl.length) .un
theorem env0_ok {K : PySem.W.Frag} {S : Hp} {as : List Addr} {N : List Str} {sl : List Slot} {vs : List V} (h : ArgR K S as sl vs) : EnvR K S as (env0 N sl) (L2.start N vs) := by
  unfold env0 L2.start
  rw [h.length]
  have tl : ∀ n : Nat, EnvR K S as (List.replicate n .un) (List.replicate n none) := by
    intro n
    induction n with
    | zero => exact trivial
    | succ n ih => rw [List.replicate_succ, List.replicate_succ]; exact ⟨trivial, ih⟩
  have go : ∀ {sl : List Slot} {vs : List V} (n : Nat), ArgR K S as sl vs → EnvR K S as (sl ++ List.replicate n .un) (vs.map some ++ List.replicate n none) := by
    intro sl
    induction sl with
    | nil => intro vs n h; rw [show vs = [] from h]; exact tl n
    | cons s r ih =>
      intro vs n h
      obtain ⟨v, t, rfl, h1, h2⟩ := h
      exact ⟨h1, ih n h2⟩
  exact go _ h
section
variable {P : Program} {w : World} {K : PySem.W.Frag} {mg : Str → Option Value} {base : Heap} {x qual : Str} {params : Arguments} {body : List Stmt} {scope : Scope} {f : Addr} {fd : FuncData} {N ps : List Str} {k : Nat}
/-- where a def's body stands -/
abbrev bodyX (CX : CXT) (P : Program) (w : World) (K : PySem.W.Frag) (mg : Str → Option Value) (base : Heap) (N : List Str) (qual : Str) (scope : Scope) (f : Addr) (cdv : Value) (A : Around) (outer : List Env) (s : Shared) (H : Hp) (E : XK) : Cx := cxOf CX P w K mg base N qual scope f cdv A outer s H E
theorem frozen {K : PySem.W.Frag} {S2 H2 : Hp} {as : List Addr} {M : List MO} {k : Nat} {a : Addr} {ds : List D} (ok : Ok K S2 as M H2) (ha : as[k]? = some a) (hm : M[k]? = some (.ml ds)) :
    ∃ vs, S2 a = none ∧ H2 a = some (.lst vs) ∧ Ex S2 (upd S2 a (.lst vs)) ∧ Ex (upd S2 a (.lst vs)) H2 ∧ Rep K (upd S2 a (.lst vs)) (.lst ds) (.ref a) := by
  obtain ⟨b, hb, hS, vs, hv, r⟩ := ok.own.get hm
  obtain rfl : b = a := Option.some.inj (hb.symm.trans ha)
  have e1 : Ex S2 (upd S2 b (.lst vs)) := Ex.new hS
  refine ⟨vs, hS, hv, e1, fun c o q => ?_, b, vs, rfl, sq_of upd_same, r.mono e1⟩
  by_cases hc : c = b
  · subst hc; rw [upd_same] at q; rw [hv]; exact q
  · rw [upd_ne hc] at q; exact ok.ex c o q
theorem fnF {CX : CXT} {R : List D → (D → Prop) → (Value → Prop) → Prop} (F : FunD K x qual params body scope [] [] f fd) (S : FnScope N ps scope) (hlen : ∀ ds Pf PXf, R ds Pf PXf → ds.length = ps.length)
    (hb : ∀ (cdv : Value) (A : Around) (outer : List Env) (s : Shared) (H : Hp) (E : XK), Room k (A.deeper (envOfC qual scope s.heap.objs.size f cdv)) → ∀ ds Pf PXf, R ds Pf PXf →
      BS (cxOf CX P w K mg base N qual scope f cdv A outer s H E) (fun _ => E) (env0 N (ds.map .dat)) [] body (outF Pf PXf)) : FnOk P w K mg base CX (k + 1) f fd ps (spF K R) := by
  refine F.ok S (fun vs H Q E ⟨S0, ds, Pf, PXf, e, r, hr, _⟩ => by rw [r.length]; exact hlen ds Pf PXf hr) fun cdv A outer s H vs Q E hroom ⟨S0, ds, Pf, PXf, e, r, hR, k1, k2⟩ => ⟨_, hb cdv A outer s H E hroom ds Pf PXf hR, S0, [], ⟨e, List.nodup_nil, trivial⟩, env0_ok (ArgR.of r), fun o po => ?_⟩
  cases o with
  | rt d M => exact fun v S2 ns H2 p2 fr ok2 rd => k1 d v S2 H2 po p2 ok2.ex rd
  | nx env M => exact fun σ' S2 ns H2 p2 fr ok2 _ => k1 .non .non S2 H2 po p2 ok2.ex rfl
  | rn j M =>
    intro a S2 ns H2 p2 fr ok2 ha
    obtain ⟨es, hm, pf⟩ := po
    obtain ⟨vs', hS, hv, e1, e2, rd⟩ := frozen ok2 ha hm
    refine k1 _ _ (upd S2 a (.lst vs')) H2 pf ⟨p2.ex.trans e1, p2.keep, p2.dom, fun b q1 q2 => ?_⟩ e2 rd
    by_cases hc : b = a
    · subst hc; exact fr b (List.mem_of_getElem? ha)
    · rw [upd_ne hc] at q1; exact p2.new b q1 q2
  | xx c env M => exact fun σ' S2 ns H2 p2 fr ok2 _ => k2 c S2 H2 po p2 ok2.ex
  | bk _ _ => exact po.elim
  | ct _ _ => exact po.elim
theorem fnN {R : List D → (MO → Prop) → Prop} (F : FunD K x qual params body scope [] [] f fd) (S : FnScope N ps scope) (hlen : ∀ ds Pf, R ds Pf → ds.length = ps.length)
    (hb : ∀ (cdv : Value) (A : Around) (outer : List Env) (s : Shared) (H : Hp) (E : XK), Room k (A.deeper (envOfC qual scope s.heap.objs.size f cdv)) → ∀ ds Pf, R ds Pf →
      BS (cxOf CX0 P w K mg base N qual scope f cdv A outer s H E) (fun _ => E) (env0 N (ds.map .dat)) [] body (outN Pf)) : FnOk P w K mg base CX0 (k + 1) f fd ps (spN K R) := by
  refine F.ok S (fun vs H Q E ⟨S0, ds, Pf, e, r, hr, _⟩ => by rw [r.length]; exact hlen ds Pf hr) fun cdv A outer s H vs Q E hroom ⟨S0, ds, Pf, e, r, hR, k1⟩ => ⟨_, hb cdv A outer s H E hroom ds Pf hR, S0, [], ⟨e, List.nodup_nil, trivial⟩, env0_ok (ArgR.of r), fun o po => ?_⟩
  cases o with
  | rn j M =>
    intro a S2 ns H2 p2 fr ok2 ha
    obtain ⟨m, hm, hg, pf⟩ := po
    obtain ⟨b, hb, ho⟩ := ok2.own.get hm
    obtain rfl : b = a := Option.some.inj (hb.symm.trans ha)
    exact k1 m b S2 H2 pf p2 (fr b (List.mem_of_getElem? ha)) ⟨ok2.ex, by simp, ho, trivial⟩
  | rt d M => exact po.elim
  | nx env M => exact po.elim
  | xx c env M => exact po.elim
  | bk _ _ => exact po.elim
  | ct _ _ => exact po.elim
theorem fnW {R : List D → (D → Prop) → Prop} (F : FunD K x qual params body scope [] [] f fd) (S : FnScope N ps scope) (hlen : ∀ ds Pf, R ds Pf → ds.length + 1 = ps.length)
    (hb : ∀ (cdv : Value) (A : Around) (outer : List Env) (s : Shared) (H : Hp) (E : XK), Room k (A.deeper (envOfC qual scope s.heap.objs.size f cdv)) → ∀ ds Pf, R ds Pf →
      BS (cxOf CX0 P w K mg base N qual scope f cdv A outer s H E) (fun _ => E) (env0 N (.ptr 0 :: ds.map .dat)) [.well] body (outW Pf)) : FnOk P w K mg base CX0 (k + 1) f fd ps (spW K R) := by
  refine F.ok S (fun vs H Q E ⟨S0, a, vs', ds, Pf, e, ok, r, hr, _⟩ => by rw [e, List.length_cons, r.length]; exact hlen ds Pf hr) fun cdv A outer s H vs Q E hroom ⟨S0, a, vs', ds, Pf, e, ok, r, hR, k1⟩ => ⟨_, hb cdv A outer s H E hroom ds Pf hR, S0, [a], ok, env0_ok (by rw [e]; exact ⟨.ref a, vs', rfl, ⟨a, rfl, rfl⟩, ArgR.of r⟩), fun o po => ?_⟩
  have one : ∀ {S2 H2 : Hp} {ns : List Addr} {M : List MO}, Ok K S2 ([a] ++ ns) M H2 → M[0]? = some .well → Ok K S2 [a] [.well] H2 := fun {S2 H2 ns M} ok2 h0 => by
    obtain ⟨b, hb, ho⟩ := ok2.own.get h0
    obtain rfl : a = b := Option.some.inj hb
    exact ⟨ok2.ex, by simp, ho, trivial⟩
  cases o with
  | rt d M => exact fun v S2 ns H2 p2 fr ok2 rd => k1 d v S2 H2 po.1 p2 (one ok2 po.2) rd
  | nx env M => exact fun σ' S2 ns H2 p2 fr ok2 _ => k1 .non .non S2 H2 po.1 p2 (one ok2 po.2) rfl
  | rn j M =>
    intro b S2 ns H2 p2 fr ok2 hb
    obtain ⟨⟨es, hm, pf⟩, hj, h0⟩ := po
    obtain ⟨vs', hS, hv, e1, e2, rd⟩ := frozen ok2 hb hm
    have hbn : b ∈ ns := by
      obtain ⟨j', rfl⟩ : ∃ j', j = j' + 1 := ⟨j - 1, by omega⟩
      exact List.mem_of_getElem? (show ns[j']? = some b by simpa using hb)
    have hba : b ≠ a := by
      rintro rfl
      have := ok2.nd
      rw [List.singleton_append, List.nodup_cons] at this
      exact this.1 hbn
    have ok1 := one ok2 h0
    refine k1 _ _ (upd S2 b (.lst vs')) H2 pf ⟨p2.ex.trans e1, p2.keep, p2.dom, fun c q1 q2 => ?_⟩ ⟨e2, ok1.nd, ok1.own.1.keep e1 (fun _ z => z) (fun z1 z2 => ?_), trivial⟩ rd
    · by_cases hc : c = b
      · subst hc; exact fr c hbn
      · rw [upd_ne hc] at q1; exact p2.new c q1 q2
    · rw [upd_ne (Ne.symm hba)] at z1; exact absurd z2 z1
  | xx c env M => exact po.elim
  | bk _ _ => exact po.elim
  | ct _ _ => exact po.elim
end
end DL

set_option Elab.async false
set_option linter.all false
set_option maxRecDepth 100000
set_option maxHeartbeats 4000000
namespace DL
open PySem PySem.Spec PyProof.Rows L2 Evl

/-! ### operators on data -/
section
variable {K : PySem.W.Frag} {P : D → Prop}
theorem bin_I0 {g : Int → Int → V} {i j : Int} {d : D} (h : ∀ S, Rep K S d (g i j)) (p : P d) : Bin K (rI0 g) (.int i) (.int j) P := fun S H x y Q e rx ry k =>
  ⟨i, j, rx, ry, k.here e p (h S)⟩
theorem bin_I {C : Int → Int → Prop} {g : Int → Int → V} {i j : Int} {d : D} (hc : C i j) (h : ∀ S, Rep K S d (g i j)) (p : P d) : Bin K (rI C g) (.int i) (.int j) P := fun S H x y Q e rx ry k =>
  ⟨i, j, rx, ry, hc, k.here e p (h S)⟩
/-- scalars -/
def D.sc : D → Bool
  | .non => true | .bl _ => true | .int _ => true | .str _ => true | _ => false
def scD : D → D → Bool
  | .non, .non => true | .non, .int _ => true | .int _, .non => true | .non, .bl _ => true | .bl _, .non => true | .non, .str _ => true | .str _, .non => true
  | .int _, .int _ => true | .bl _, .bl _ => true | .str _, .str _ => true
  | .int _, .str _ => true | .str _, .int _ => true | .bl _, .str _ => true | .str _, .bl _ => true
  | _, _ => false
def eqD : D → D → Bool
  | .non, .non => true | .int i, .int j => decide (i = j) | .bl a, .bl b => decide (a = b) | .str x, .str y => decide (x = y)
  | _, _ => false
theorem bin_eqS {a b : D} (h : scD a b = true) (p : P (.bl (eqD a b))) : Bin K rEq a b P := fun S H x y Q e rx ry k => by
  cases a <;> cases b <;> first
    | (cases h; done)
    | (obtain rfl := rx; obtain rfl := ry; refine ⟨rfl, k.here e (d := .bl _) p ?_⟩; show V.bl _ = V.bl _; simp [eqD])
theorem bin_neS {a b : D} (h : scD a b = true) (p : P (.bl (!eqD a b))) : Bin K rNe a b P := fun S H x y Q e rx ry k => by
  cases a <;> cases b <;> first
    | (cases h; done)
    | (obtain rfl := rx; obtain rfl := ry; refine ⟨rfl, k.here e (d := .bl _) p ?_⟩; show V.bl _ = V.bl _; simp [eqD])
theorem bin_isN {a : D} (p : P (.bl (match a with | .non => true | _ => false))) : Bin K (fun x y H Q => y = .non ∧ Q (.bl (decide (x = .non))) H) a .non P := fun S H x y Q e rx ry k => by
  refine ⟨ry, k.here e p ?_⟩
  cases a <;> first
    | (obtain rfl := rx; simp [Rep])
    | (obtain ⟨a, xs, rfl, _⟩ := rx; simp [Rep])
theorem bin_notN {a : D} (p : P (.bl (match a with | .non => false | _ => true))) : Bin K (fun x y H Q => y = .non ∧ Q (.bl (!decide (x = .non))) H) a .non P := fun S H x y Q e rx ry k => by
  refine ⟨ry, k.here e p ?_⟩
  cases a <;> first
    | (obtain rfl := rx; simp [Rep])
    | (obtain ⟨a, xs, rfl, _⟩ := rx; simp [Rep])
/-- == of data -/
abbrev Sh (d : D) : Prop := SeqAt.shaped d.py = true
theorem bin_eq {a b : D} (ha : Sh a) (hb : Sh b) (p : P (.bl (PyData.eqv a.py b.py))) : Bin K (rEqD K) a b P := fun S H x y Q e rx ry k =>
  ⟨a.py, b.py, (rx.mono e).dp, (ry.mono e).dp, ha, hb, k.here e p rfl⟩
theorem bin_ne {a b : D} (ha : Sh a) (hb : Sh b) (p : P (.bl (!PyData.eqv a.py b.py))) : Bin K (rNeD K) a b P := fun S H x y Q e rx ry k =>
  ⟨a.py, b.py, (rx.mono e).dp, (ry.mono e).dp, ha, hb, k.here e p rfl⟩
/-- a sign in a text -/
theorem bin_sign {c : Nat} {z : Str} (p : P (.bl (decide (c ∈ z.cps.toList)))) : Bin K (fun x y H Q => ∃ (c : Nat) (z : Str), x = .str ⟨#[c]⟩ ∧ y = .str z ∧ Q (.bl (decide (c ∈ z.cps.toList))) H) (.str ⟨#[c]⟩) (.str z) P := fun S H x y Q e rx ry k =>
  ⟨c, z, rx, ry, k.here e p rfl⟩
theorem bin_nsign {c : Nat} {z : Str} (p : P (.bl (!decide (c ∈ z.cps.toList)))) : Bin K (fun x y H Q => ∃ (c : Nat) (z : Str), x = .str ⟨#[c]⟩ ∧ y = .str z ∧ Q (.bl (!decide (c ∈ z.cps.toList))) H) (.str ⟨#[c]⟩) (.str z) P := fun S H x y Q e rx ry k =>
  ⟨c, z, rx, ry, k.here e p rfl⟩
/-- in a list, a tuple of flat things -/
def flatD : D → Bool
  | .tup _ => false | .lst _ => false | _ => true
def eqF : D → D → Bool
  | .non, .non => true | .bl a, .bl b => a == b | .bl a, .int j => (if a then 1 else 0) == j | .int i, .bl b => i == (if b then 1 else 0) | .int i, .int j => i == j | .str x, .str y => x == y
  | _, _ => false
theorem flatV_of {S : Hp} {d : D} {x : V} (r : Rep K S d x) (h : flatD d = true) : flatV x = true := by
  cases d <;> first
    | (cases h; done)
    | (obtain rfl := r; rfl)
theorem flatVs_of {S : Hp} : ∀ {ds : List D} {xs : List V}, RepL K S ds xs → ds.all flatD = true → xs.all flatV = true
  | [], _, h, _ => by rw [show _ = [] from h]; rfl
  | _ :: _, _, ⟨x, r, e1, h1, h2⟩, h => by
    rw [List.all_cons, Bool.and_eq_true] at h
    rw [e1, List.all_cons, flatV_of h1 h.1, flatVs_of h2 h.2]; rfl
theorem eqF_of {S : Hp} {d e : D} {x y : V} (r : Rep K S d x) (q : Rep K S e y) (h : flatD d = true) (g : flatD e = true) : eqV x y = eqF d e := by
  cases d <;> cases e <;> first
    | (cases h; done)
    | (cases g; done)
    | (obtain rfl := r; obtain rfl := q; rfl)
def inF (d : D) (ds : List D) : Bool := ds.any fun e => eqF e d
theorem inF_of {S : Hp} {d : D} {x : V} (r : Rep K S d x) (h : flatD d = true) : ∀ {ds : List D} {xs : List V}, RepL K S ds xs → ds.all flatD = true → inV x xs = inF d ds
  | [], _, g, _ => by rw [show _ = [] from g]; rfl
  | _ :: ds, _, ⟨y, t, e1, h1, h2⟩, g => by
    rw [List.all_cons, Bool.and_eq_true] at g
    have ih := inF_of r h h2 g.2
    unfold inV inF at ih ⊢
    rw [e1, List.any_cons, List.any_cons, ih, eqF_of h1 r g.1 h]
theorem bin_inT {d : D} {ds : List D} (h1 : flatD d = true) (h2 : ds.all flatD = true) (p : P (.bl (inF d ds))) : Bin K (rIn K false) d (.tup ds) P := fun S H x y Q e rx ry k => by
  obtain ⟨a, xs, rfl, hq, rl⟩ := ry
  refine ⟨a, xs, rfl, .inr (ex_t e hq), flatV_of rx h1, flatVs_of rl h2, ?_⟩
  rw [if_neg Bool.false_ne_true, inF_of rx h1 rl h2]
  exact k.here e p rfl
theorem bin_inL {d : D} {ds : List D} (h1 : flatD d = true) (h2 : ds.all flatD = true) (p : P (.bl (inF d ds))) : Bin K (rIn K false) d (.lst ds) P := fun S H x y Q e rx ry k => by
  obtain ⟨a, xs, rfl, hq, rl⟩ := ry
  refine ⟨a, xs, rfl, .inl (ex_l e hq), flatV_of rx h1, flatVs_of rl h2, ?_⟩
  rw [if_neg Bool.false_ne_true, inF_of rx h1 rl h2]
  exact k.here e p rfl
theorem bin_niT {d : D} {ds : List D} (h1 : flatD d = true) (h2 : ds.all flatD = true) (p : P (.bl (!inF d ds))) : Bin K (rIn K true) d (.tup ds) P := fun S H x y Q e rx ry k => by
  obtain ⟨a, xs, rfl, hq, rl⟩ := ry
  refine ⟨a, xs, rfl, .inr (ex_t e hq), flatV_of rx h1, flatVs_of rl h2, ?_⟩
  rw [if_pos rfl, inF_of rx h1 rl h2]
  exact k.here e p rfl
/-- t[i], xs[i], s[i] -/
theorem bin_ixT {ds : List D} {i : Int} {d : D} (h : atI ds i = some d) (p : P d) : Bin K (rIxT K) (.tup ds) (.int i) P := fun S H x y Q e rx ry k => by
  obtain ⟨a, xs, rfl, hq, rl⟩ := rx
  obtain ⟨j, h1, h2, h3, h4, h5⟩ := atI_get h
  have hl := rl.length
  obtain ⟨v, hv, rv⟩ := rl.get h2
  refine ⟨a, xs, i, v, rfl, ry, ex_t e hq, ?_, k.here e p rv⟩
  unfold atI at h ⊢
  rw [hl]
  cases q : ixN ds.length i with
  | none => rw [q] at h; cases h
  | some n =>
    obtain ⟨q1, _⟩ := ixN_seq q
    rw [h1] at q1
    cases q1
    exact hv
theorem bin_ixL {ds : List D} {i : Int} {d : D} (h : atI ds i = some d) (p : P d) : Bin K (rIxL K) (.lst ds) (.int i) P := fun S H x y Q e rx ry k => by
  obtain ⟨a, xs, rfl, hq, rl⟩ := rx
  obtain ⟨j, h1, h2, h3, h4, h5⟩ := atI_get h
  have hl := rl.length
  obtain ⟨v, hv, rv⟩ := rl.get h2
  refine ⟨a, xs, i, v, rfl, ry, ex_l e hq, ?_, k.here e p rv⟩
  unfold atI at h ⊢
  rw [hl]
  cases q : ixN ds.length i with
  | none => rw [q] at h; cases h
  | some n =>
    obtain ⟨q1, _⟩ := ixN_seq q
    rw [h1] at q1
    cases q1
    exact hv
theorem bin_ixS {z : Str} {i : Int} {c : Nat} (hz : z.length ≤ 100000) (h : atI z.cps.toList i = some c) (p : P (.str ⟨#[c]⟩)) : Bin K rIxS (.str z) (.int i) P := fun S H x y Q e rx ry k =>
  ⟨z, i, c, rx, ry, sz_of hz, h, k.here e p rfl⟩
/-- t + u -/
theorem bin_cat {ds es : List D} (hl : ds.length + es.length ≤ 100000) (p : P (.tup (ds ++ es))) : Bin K (rCatA K) (.tup ds) (.tup es) P := fun S H x y Q e rx ry k => by
  obtain ⟨a, xs, rfl, hq, rl⟩ := rx
  obtain ⟨b, ys, rfl, hq2, rl2⟩ := ry
  have l1 := rl.length
  have l2 := rl2.length
  refine ⟨a, b, xs, ys, rfl, rfl, ex_t e hq, ex_t e hq2, sz_of (by omega), fun h0 => ?_, fun h0 h1 => ?_, fun _ _ q hp => k.tup e hp p (rl.append rl2)⟩
  · subst h0
    have : ds = [] := List.length_eq_zero_iff.mp (by simpa using l1.symm)
    subst this
    exact k.here e p ⟨b, ys, rfl, hq2, rl2⟩
  · subst h1
    have : es = [] := List.length_eq_zero_iff.mp (by simpa using l2.symm)
    subst this
    rw [List.append_nil] at p
    exact k.here e p ⟨a, xs, rfl, hq, rl⟩
theorem bin_catS {x y : Str} (hl : x.length + y.length ≤ 100000) (p : P (.str (x ++ y))) : Bin K (fun x y H Q => ∃ i j, x = .str i ∧ y = .str j ∧ i.length + j.length ≤ sizeLine ∧ Q (.str (i ++ j)) H) (.str x) (.str y) P := fun S H v u Q e rx ry k =>
  ⟨x, y, rx, ry, sz_of hl, k.here e p rfl⟩
theorem bin_ltS {x y : Str} (p : P (.bl (decide (x.cps.toList < y.cps.toList)))) : Bin K (fun x y H Q => ∃ i j, x = .str i ∧ y = .str j ∧ Q (.bl (decide (i.cps.toList < j.cps.toList))) H) (.str x) (.str y) P := fun S H v u Q e rx ry k =>
  ⟨x, y, rx, ry, k.here e p rfl⟩

/-! ### built-in functions -/
def lenD : D → Nat
  | .tup ds => ds.length | .lst ds => ds.length | .str z => z.length | _ => 0
def sized : D → Bool
  | .tup _ => true | .lst _ => true | .str z => decide (z.length ≤ 100000) | _ => false
theorem fnc_len {d : D} (h : sized d = true) (p : P (.int (lenD d))) : Fnc K (fun xs H Q => ∃ x n, xs = [x] ∧ LenV K x H n ∧ Q (.int n) H) [d] P := fun S H xs Q e rx k => by
  obtain ⟨v, t, rfl, r, ht⟩ := rx
  obtain rfl : t = [] := ht
  refine ⟨v, lenD d, rfl, ?_, k.here e p rfl⟩
  cases d with
  | tup ds =>
    obtain ⟨a, ys, rfl, hq, rl⟩ := r
    exact .inr ⟨ys, ex_t e hq, rl.length.symm⟩
  | lst ds =>
    obtain ⟨a, ys, rfl, hq, rl⟩ := r
    exact .inl ⟨ys, ex_l e hq, rl.length.symm⟩
  | str z =>
    obtain rfl := r
    exact ⟨sz_of (of_decide_eq_true h), rfl⟩
  | non => cases h
  | bl _ => cases h
  | int _ => cases h
theorem repL_bls {S : Hp} : ∀ {bs : List Bool} {xs : List V}, RepL K S (bs.map D.bl) xs → xs = bs.map V.bl
  | [], _, h => h
  | b :: bs, _, ⟨x, r, e1, h1, h2⟩ => by rw [e1, show x = V.bl b from h1, repL_bls h2]; rfl
theorem repL_ints {S : Hp} : ∀ {bs : List Int} {xs : List V}, RepL K S (bs.map D.int) xs → xs = bs.map V.int
  | [], _, h => h
  | b :: bs, _, ⟨x, r, e1, h1, h2⟩ => by rw [e1, show x = V.int b from h1, repL_ints h2]; rfl
theorem repL_strs {S : Hp} : ∀ {bs : List Str} {xs : List V}, RepL K S (bs.map D.str) xs → xs = bs.map V.str
  | [], _, h => h
  | b :: bs, _, ⟨x, r, e1, h1, h2⟩ => by rw [e1, show x = V.str b from h1, repL_strs h2]; rfl
theorem fnc_all {bs : List Bool} (p : P (.bl (bs.all id))) : Fnc K (rAll K) [.lst (bs.map D.bl)] P := fun S H xs Q e rx k => by
  obtain ⟨v, t, rfl, ⟨a, ys, rfl, hq, rl⟩, ht⟩ := rx
  obtain rfl : t = [] := ht
  rw [repL_bls rl] at hq
  exact ⟨a, bs, rfl, ex_l e hq, k.here e p rfl⟩
theorem fnc_any {bs : List Bool} (p : P (.bl (bs.any id))) : Fnc K (rAny K) [.lst (bs.map D.bl)] P := fun S H xs Q e rx k => by
  obtain ⟨v, t, rfl, ⟨a, ys, rfl, hq, rl⟩, ht⟩ := rx
  obtain rfl : t = [] := ht
  rw [repL_bls rl] at hq
  exact ⟨a, bs, rfl, ex_l e hq, k.here e p rfl⟩
theorem fnc_sum {ns : List Int} (p : P (.int ns.sum)) : Fnc K (rSum K) [.lst (ns.map D.int)] P := fun S H xs Q e rx k => by
  obtain ⟨v, t, rfl, ⟨a, ys, rfl, hq, rl⟩, ht⟩ := rx
  obtain rfl : t = [] := ht
  rw [repL_ints rl] at hq
  exact ⟨a, ns, rfl, ex_l e hq, k.here e p rfl⟩
theorem fnc_tupleL {ds : List D} (p : P (.tup ds)) : Fnc K (fun xs H Q => ∃ p ys, xs = [.ref p] ∧ ((SqL K H p ys ∧ ∀ l, H l = none → Q (.ref l) (upd H l (.tup ys))) ∨ (SqT K H p ys ∧ Q (.ref p) H))) [.lst ds] P := fun S H xs Q e rx k => by
  obtain ⟨v, t, rfl, ⟨a, ys, rfl, hq, rl⟩, ht⟩ := rx
  obtain rfl : t = [] := ht
  exact ⟨a, ys, rfl, .inl ⟨ex_l e hq, fun l hl => k.tup e hl p rl⟩⟩
theorem fnc_tupleT {ds : List D} (p : P (.tup ds)) : Fnc K (fun xs H Q => ∃ p ys, xs = [.ref p] ∧ ((SqL K H p ys ∧ ∀ l, H l = none → Q (.ref l) (upd H l (.tup ys))) ∨ (SqT K H p ys ∧ Q (.ref p) H))) [.tup ds] P := fun S H xs Q e rx k => by
  obtain ⟨v, t, rfl, ⟨a, ys, rfl, hq, rl⟩, ht⟩ := rx
  obtain rfl : t = [] := ht
  exact ⟨a, ys, rfl, .inr ⟨ex_t e hq, k.here e p ⟨a, ys, rfl, hq, rl⟩⟩⟩
theorem fnc_listL {ds : List D} (p : P (.lst ds)) : Fnc K (fun xs H Q => ∃ p ys, xs = [.ref p] ∧ (SqL K H p ys ∨ SqT K H p ys) ∧ ∀ l, H l = none → Q (.ref l) (upd H l (.lst ys))) [.lst ds] P := fun S H xs Q e rx k => by
  obtain ⟨v, t, rfl, ⟨a, ys, rfl, hq, rl⟩, ht⟩ := rx
  obtain rfl : t = [] := ht
  exact ⟨a, ys, rfl, .inl (ex_l e hq), fun l hl => k.lst e hl p rl⟩
theorem fnc_min2 {i j : Int} (p : P (.int (if j < i then j else i))) : Fnc K (fun xs H Q => ∃ i j, xs = [.int i, .int j] ∧ Q (.int (if j < i then j else i)) H) [.int i, .int j] P := fun S H xs Q e rx k => by
  obtain ⟨v, t, rfl, rfl, u, t2, rfl, rfl, ht⟩ := rx
  obtain rfl : t2 = [] := ht
  exact ⟨i, j, rfl, k.here e p rfl⟩
theorem fnc_max2 {i j : Int} (p : P (.int (if j > i then j else i))) : Fnc K (fun xs H Q => ∃ i j, xs = [.int i, .int j] ∧ Q (.int (if j > i then j else i)) H) [.int i, .int j] P := fun S H xs Q e rx k => by
  obtain ⟨v, t, rfl, rfl, u, t2, rfl, rfl, ht⟩ := rx
  obtain rfl : t2 = [] := ht
  exact ⟨i, j, rfl, k.here e p rfl⟩
end

/-! ### isinstance -/
def D.ty : D → String
  | .non => "NoneType" | .bl _ => "bool" | .int _ => "int" | .str _ => "str" | .tup _ => "tuple" | .lst _ => "list"
def isStr : D → Bool | .str _ => true | _ => false
def isBool : D → Bool | .bl _ => true | _ => false
def isInt : D → Bool | .int _ => true | .bl _ => true | _ => false
def isTup : D → Bool | .tup _ => true | _ => false
def isLst : D → Bool | .lst _ => true | _ => false
theorem Rep.tyX {K : PySem.W.Frag} {S H : Hp} {d : D} {v : V} (r : Rep K S d v) (e : Ex S H) : TyX K H v (.type d.ty) := by
  cases d with
  | non => obtain rfl := r; exact .base .non
  | bl b => obtain rfl := r; exact .base (.bl b)
  | int b => obtain rfl := r; exact .base (.int b)
  | str b => obtain rfl := r; exact .base (.str b)
  | tup ds =>
    obtain ⟨a, xs, rfl, hq, _⟩ := r
    rcases ex_t e hq with (h | ⟨o, h⟩) | ⟨o, its, n, h, hc, _⟩
    · exact .base (.tup h)
    · exact .fTuple h
    · exact .kTuple h hc
  | lst ds =>
    obtain ⟨a, xs, rfl, hq, _⟩ := r
    rcases ex_l e hq with (h | ⟨o, h⟩) | ⟨o, its, n, h, hc, _⟩
    · exact .base (.lst h)
    · exact .base (.frz h)
    · exact .kList h hc
theorem kit_str : ∀ d : D, kitB d.ty "str" = some (isStr d)
  | .non => (by decide +kernel : kitB "NoneType" "str" = some false)
  | .bl _ => (by decide +kernel : kitB "bool" "str" = some false)
  | .int _ => (by decide +kernel : kitB "int" "str" = some false)
  | .str _ => (by decide +kernel : kitB "str" "str" = some true)
  | .tup _ => (by decide +kernel : kitB "tuple" "str" = some false)
  | .lst _ => (by decide +kernel : kitB "list" "str" = some false)
theorem kit_bool : ∀ d : D, kitB d.ty "bool" = some (isBool d)
  | .non => (by decide +kernel : kitB "NoneType" "bool" = some false)
  | .bl _ => (by decide +kernel : kitB "bool" "bool" = some true)
  | .int _ => (by decide +kernel : kitB "int" "bool" = some false)
  | .str _ => (by decide +kernel : kitB "str" "bool" = some false)
  | .tup _ => (by decide +kernel : kitB "tuple" "bool" = some false)
  | .lst _ => (by decide +kernel : kitB "list" "bool" = some false)
theorem kit_int : ∀ d : D, kitB d.ty "int" = some (isInt d)
  | .non => (by decide +kernel : kitB "NoneType" "int" = some false)
  | .bl _ => (by decide +kernel : kitB "bool" "int" = some true)
  | .int _ => (by decide +kernel : kitB "int" "int" = some true)
  | .str _ => (by decide +kernel : kitB "str" "int" = some false)
  | .tup _ => (by decide +kernel : kitB "tuple" "int" = some false)
  | .lst _ => (by decide +kernel : kitB "list" "int" = some false)
theorem kit_tup : ∀ d : D, kitB d.ty "tuple" = some (isTup d)
  | .non => (by decide +kernel : kitB "NoneType" "tuple" = some false)
  | .bl _ => (by decide +kernel : kitB "bool" "tuple" = some false)
  | .int _ => (by decide +kernel : kitB "int" "tuple" = some false)
  | .str _ => (by decide +kernel : kitB "str" "tuple" = some false)
  | .tup _ => (by decide +kernel : kitB "tuple" "tuple" = some true)
  | .lst _ => (by decide +kernel : kitB "list" "tuple" = some false)
theorem kit_lst : ∀ d : D, kitB d.ty "list" = some (isLst d)
  | .non => (by decide +kernel : kitB "NoneType" "list" = some false)
  | .bl _ => (by decide +kernel : kitB "bool" "list" = some false)
  | .int _ => (by decide +kernel : kitB "int" "list" = some false)
  | .str _ => (by decide +kernel : kitB "str" "list" = some false)
  | .tup _ => (by decide +kernel : kitB "tuple" "list" = some false)
  | .lst _ => (by decide +kernel : kitB "list" "list" = some true)
section
variable {X : Cx} {E : WK} {env : List Slot} {M : List MO} {P : D → Prop} {PX : Value → Prop} {a b c : Expr} {pos p p2 : Pos}
theorem e_isi {P1 : D → Prop} {T : String} {x : Str} {isT : D → Bool} (hg : Gl X "isinstance") (hm : X.mg "isinstance" = none) (hg2 : Gl X x) (hm2 : X.mg x = none) (hv2 : bootBuiltins x = some (.type T)) (hk : ∀ d, kitB d.ty T = some (isT d)) (ha : EV X E env M a P1 PX) (h : ∀ d, P1 d → P (.bl (isT d)))
    (hn : x ≠ "__name__" := by decide) (hd : (x == ("__debug__" : Str)) = false := by decide)
    (h1 : starEach [a, .Name x p2] X.env = (false, eval a X.env) :: starEach [.Name x p2] X.env := by rfl) (h2 : starEach [.Name x p2] X.env = (false, eval (.Name x p2) X.env) :: starEach [] X.env := by rfl) (hpl : (backTo pos (starEach [.Name x p2] X.env)).any (·.1) = false := by rfl) :
    EV X E env M (.Call (.Name "isinstance" p) [a, .Name x p2] [] pos) P PX :=
  PE.imp (pe_callB call_isi hg hm boot_isinstance (pa_cons ha (pa_cons (pe_bltn hg2 hm2 hv2 (v := .ty T) rfl hn hd) pa_nil h2) h1) (by decide) (by decide) h1 hpl) fun σ H Q ⟨S, as, ok, en, k, y⟩ => ⟨S, as, ok, en, fun d v S1 H1 pd p1 ok1 r1 =>
    ⟨v, .ty T, _, _, isT d, rfl, .ty T, r1.tyX ok1.ex, kit_ty (hk d), k _ _ S1 H1 (h d pd) p1 ok1 rfl⟩, y⟩
/-- isinstance(x, (T, U)) -/
theorem e_isi2 {P1 : D → Prop} {T U : String} {x z : Str} {isT isU : D → Bool} {k1 : Nat} {p3 p4 : Pos} (hg : Gl X "isinstance") (hm : X.mg "isinstance" = none) (hg2 : Gl X x) (hm2 : X.mg x = none) (hv2 : bootBuiltins x = some (.type T)) (hk : ∀ d, kitB d.ty T = some (isT d))
    (hg3 : Gl X z) (hm3 : X.mg z = none) (hv3 : bootBuiltins z = some (.type U)) (hk2 : ∀ d, kitB d.ty U = some (isU d)) (ha : EV X E env M a P1 PX) (h : ∀ d, P1 d → P (.bl (isT d || isU d)))
    (hn : x ≠ "__name__" := by decide) (hd : (x == ("__debug__" : Str)) = false := by decide) (hn3 : z ≠ "__name__" := by decide) (hd3 : (z == ("__debug__" : Str)) = false := by decide)
    (h1 : starEach [a, .Tuple [.Name x p2, .Name z p3] k1 p4] X.env = (false, eval a X.env) :: starEach [.Tuple [.Name x p2, .Name z p3] k1 p4] X.env := by rfl) (h2 : starEach [.Tuple [.Name x p2, .Name z p3] k1 p4] X.env = (false, eval (.Tuple [.Name x p2, .Name z p3] k1 p4) X.env) :: starEach [] X.env := by rfl)
    (hpl : (backTo pos (starEach [.Tuple [.Name x p2, .Name z p3] k1 p4] X.env)).any (·.1) = false := by rfl) (h3 : starEach [.Name x p2, .Name z p3] X.env = (false, eval (.Name x p2) X.env) :: starEach [.Name z p3] X.env := by rfl) (h4 : starEach [.Name z p3] X.env = (false, eval (.Name z p3) X.env) :: starEach [] X.env := by rfl) :
    EV X E env M (.Call (.Name "isinstance" p) [a, .Tuple [.Name x p2, .Name z p3] k1 p4] [] pos) P PX :=
  PE.imp (pe_callB call_isiT hg hm boot_isinstance (pa_cons ha (pa_cons (pe_tup (pa_cons (pe_bltn hg2 hm2 hv2 (v := .ty T) rfl hn hd) (pa_cons (pe_bltn hg3 hm3 hv3 (v := .ty U) rfl hn3 hd3) pa_nil h4) h3)) pa_nil h2) h1) (by decide) (by decide) h1 hpl) fun σ H Q ⟨S, as, ok, en, k, y⟩ => ⟨S, as, ok, en, fun d v S1 H1 pd p1 ok1 r1 => by
    refine ⟨by show 2 ≤ sizeLine; decide, fun q hq => ?_⟩
    have e2 : Ex S1 (upd H1 q (.tup [.ty T, .ty U])) := ok1.ex.trans (Ex.new hq)
    refine ⟨v, q, [.ty T, .ty U], _, [.type T, .type U], isT d || isU d, rfl, upd_same, .cons (.ty T) (.cons (.ty U) .nil), r1.tyX e2, ?_, k _ _ S1 _ (h d pd) (p1.trans (Post.grew (Ex.refl _) (Ex.new hq) fun _ z1 z2 => absurd z2 z1)) (ok1.grew (Ex.refl _) e2 (Ex.new hq) fun _ z1 z2 => absurd z2 z1) rfl⟩
    refine kitAny_cons (kit_ty (hk d)) (fun e => ?_) (fun e => by rw [e]; rfl)
    refine kitAny_cons (kit_ty (hk2 d)) (fun e2 => ?_) (fun e2 => by rw [e2, Bool.or_true])
    rw [e, e2]; exact kitAny_nil, y⟩
/-- a op b op' c -/
theorem chain_read {r r' : R2} {Pa Pb Pc : D → Prop} {P1 : D → D → Bool → Prop} {P : D → Prop} {ta tb tc : TE} {σ : L2.St} {H : Hp} {Q : VK} {K : PySem.W.Frag} (ha : ∀ Q, tP K E env M Pa PX σ H Q → ta σ H Q) (hb : ∀ H Q, tP K E env M Pb PX σ H Q → tb σ H Q) (hc : ∀ H Q, tP K E env M Pc PX σ H Q → tc σ H Q)
    (h : ∀ da db, Pa da → Pb db → Bin K r da db fun d => ∃ k, d = .bl k ∧ P1 da db k) (h2 : ∀ da db dc, Pa da → Pb db → P1 da db true → Pc dc → Bin K r' db dc P) (h3 : ∀ da db, Pa da → Pb db → P1 da db false → P (.bl false))
    (q : tP K E env M P PX σ H Q) : tChain r r' ta tb tc σ H Q := by
  obtain ⟨S, as, ok, en, k, x⟩ := q
  refine ha _ ⟨S, as, ok, en, fun da v S1 H1 pa p1 ok1 r1 => ?_, x⟩
  refine hb H1 _ ⟨S1, as, ok1, en.ex p1.ex, fun db u S2 H2 pb p2 ok2 r2 => ?_, fun c S2 H2 pc p2 => x c S2 H2 pc (p1.trans p2)⟩
  refine h da db pa pb S2 H2 v u _ ok2.ex (r1.mono p2.ex) r2 fun d z S3 H3 pd e1 e2 e3 nw rz => ?_
  obtain ⟨b, rfl, pb1⟩ := pd
  obtain rfl : z = .bl b := rz
  have p3 := (p1.trans p2).trans (Post.grew e1 e3 nw)
  have ok3 : Ok K S3 as M H3 := ok2.grew e1 e2 e3 nw
  refine ⟨b, rfl, ?_⟩
  cases b with
  | false => exact iteF (k _ _ S3 H3 (h3 da db pa pb pb1) p3 ok3 rfl)
  | true => exact iteT (hc H3 _ ⟨S3, as, ok3, en.ex p3.ex, fun dc w' S4 H4 pc p4 ok4 r4 => h2 da db dc pa pb pb1 pc S4 H4 u w' Q ok4.ex (r2.mono (e1.trans p4.ex)) r4 (tP.gives ok4 (p3.trans p4) k), fun c S4 H4 pc p4 => x c S4 H4 pc (p3.trans p4)⟩)
theorem e_chain {op op' : CmpOp} {r r' : R2} {Pa Pb Pc : D → Prop} {P1 : D → D → Bool → Prop} (ho : OpR X (compareOp op) r) (ho' : OpR X (compareOp op') r') (ha : EV X E env M a Pa PX) (hb : EV X E env M b Pb PX) (hc : EV X E env M c Pc PX)
    (h : ∀ da db, Pa da → Pb db → Bin X.K r da db fun d => ∃ k, d = .bl k ∧ P1 da db k) (h2 : ∀ da db dc, Pa da → Pb db → P1 da db true → Pc dc → Bin X.K r' db dc P) (h3 : ∀ da db, Pa da → Pb db → P1 da db false → P (.bl false))
    (hm : lastMarks [op, op'] [b, c] = false := by with_unfolding_all rfl) : EV X E env M (.Compare a [op, op'] [b, c] pos) P PX :=
  PE.imp (pe_chain ho ho' ha hb hc hm) fun σ H Q q => chain_read (fun _ z => z) (fun _ _ z => z) (fun _ _ z => z) h h2 h3 q
theorem b_chain {op op' : CmpOp} {r r' : R2} {Pa Pb Pc : D → Prop} {P1 : D → D → Bool → Prop} {P : Bool → Prop} (ho : OpR X (compareOp op) r) (ho' : OpR X (compareOp op') r') (ha : EV X E env M a Pa PX) (hb : EV X E env M b Pb PX) (hc : EV X E env M c Pc PX)
    (h : ∀ da db, Pa da → Pb db → Bin X.K r da db fun d => ∃ k, d = .bl k ∧ P1 da db k) (h2 : ∀ da db dc, Pa da → Pb db → P1 da db true → Pc dc → Bin X.K r' db dc fun d => ∃ k, d = .bl k ∧ P k) (h3 : ∀ da db, Pa da → Pb db → P1 da db false → P false)
    (hm : lastMarks [op, op'] [b, c] = false := by with_unfolding_all rfl) : BV X E env M (.Compare a [op, op'] [b, c] pos) P PX :=
  PT.imp (pt_chain ho ho' ha hb hc hm) fun σ H Q q => test_read (fun _ z => chain_read (fun _ z => z) (fun _ _ z => z) (fun _ _ z => z) h h2 (fun da db p1 p2 p3 => ⟨false, rfl, h3 da db p1 p2 p3⟩) z) q
end
end DL

set_option Elab.async false
set_option linter.all false
set_option maxRecDepth 100000
set_option maxHeartbeats 4000000
namespace DL
open PySem PySem.Spec PyProof.Rows L2 Evl

/-- a def of the module as the top has left it -/
def Df (K : PySem.W.Frag) (mg : Str → Option Value) (x : Str) (st : Stmt) : Prop := ∃ f fd, mg x = some (.ref f) ∧ FunD K x x (defArgs st) (defBody st) (defScope st) [] [] f fd
/-- the built-in names stand as they are -/
structure Bl (mg : Str → Option Value) : Prop where
  isinstance : mg "isinstance" = none
  len : mg "len" = none
  all : mg "all" = none
  any : mg "any" = none
  str : mg "str" = none
  int : mg "int" = none
  bool : mg "bool" = none
  tuple : mg "tuple" = none
  list : mg "list" = none
  range : mg "range" = none
  zip : mg "zip" = none
  enumerate : mg "enumerate" = none
  set : mg "set" = none
  sorted : mg "sorted" = none
  max : mg "max" = none
  min : mg "min" = none
  sum : mg "sum" = none
section
variable {P : Program} {w : World} {K : PySem.W.Frag} {mg : Str → Option Value} {base : Heap} {x : Str} {st : Stmt} {N ps : List Str} {k : Nat}
abbrev Bnd (x : Str) (st : Stmt) (ps : List Str) : Prop := ∀ (kV doc pm : Value) (an : Option Addr) (cdv ct : Value) (us : List Value), us.length = ps.length → bindArgs (PySem.W.fnOf x x (defArgs st) (defBody st) (defScope st) .none kV doc pm an cdv ct) ⟨us, []⟩ = pure (ps.zip us)
theorem hasF {CX : CXT} {R : List D → (D → Prop) → (Value → Prop) → Prop} (h : Df K mg x st) (S : FnScope N ps (defScope st)) (b : Bnd x st ps) (hlen : ∀ ds Pf PXf, R ds Pf PXf → ds.length = ps.length)
    (hb : ∀ (f : Addr) (cdv : Value) (A : Around) (outer : List Env) (s : Shared) (H : Hp) (E : XK), Room k (A.deeper (envOfC x (defScope st) s.heap.objs.size f cdv)) → ∀ ds Pf PXf, R ds Pf PXf →
      BS (cxOf CX P w K mg base N x (defScope st) f cdv A outer s H E) (fun _ => E) (env0 N (ds.map .dat)) [] (defBody st) (outF Pf PXf)) : Has P w K mg base CX x ps (k + 1) (spF K R) := by
  obtain ⟨f, fd, hm, F⟩ := h
  exact ⟨f, fd, hm, F.kp, F.bindsN b, fnF F S hlen fun cdv A outer s H E hr ds Pf PXf hR => hb f cdv A outer s H E hr ds Pf PXf hR⟩
theorem hasN {R : List D → (MO → Prop) → Prop} (h : Df K mg x st) (S : FnScope N ps (defScope st)) (b : Bnd x st ps) (hlen : ∀ ds Pf, R ds Pf → ds.length = ps.length)
    (hb : ∀ (f : Addr) (cdv : Value) (A : Around) (outer : List Env) (s : Shared) (H : Hp) (E : XK), Room k (A.deeper (envOfC x (defScope st) s.heap.objs.size f cdv)) → ∀ ds Pf, R ds Pf →
      BS (cxOf CX0 P w K mg base N x (defScope st) f cdv A outer s H E) (fun _ => E) (env0 N (ds.map .dat)) [] (defBody st) (outN Pf)) : Has P w K mg base CX0 x ps (k + 1) (spN K R) := by
  obtain ⟨f, fd, hm, F⟩ := h
  exact ⟨f, fd, hm, F.kp, F.bindsN b, fnN F S hlen fun cdv A outer s H E hr ds Pf hR => hb f cdv A outer s H E hr ds Pf hR⟩
theorem hasW {R : List D → (D → Prop) → Prop} (h : Df K mg x st) (S : FnScope N ps (defScope st)) (b : Bnd x st ps) (hlen : ∀ ds Pf, R ds Pf → ds.length + 1 = ps.length)
    (hb : ∀ (f : Addr) (cdv : Value) (A : Around) (outer : List Env) (s : Shared) (H : Hp) (E : XK), Room k (A.deeper (envOfC x (defScope st) s.heap.objs.size f cdv)) → ∀ ds Pf, R ds Pf →
      BS (cxOf CX0 P w K mg base N x (defScope st) f cdv A outer s H E) (fun _ => E) (env0 N (.ptr 0 :: ds.map .dat)) [.well] (defBody st) (outW Pf)) : Has P w K mg base CX0 x ps (k + 1) (spW K R) := by
  obtain ⟨f, fd, hm, F⟩ := h
  exact ⟨f, fd, hm, F.kp, F.bindsN b, fnW F S hlen fun cdv A outer s H E hr ds Pf hR => hb f cdv A outer s H E hr ds Pf hR⟩
end
/-! ### what a def tells, in short -/
def det1 (dom : D → Prop) (f : D → D) : List D → (D → Prop) → (Value → Prop) → Prop := fun ds Pf PXf => ∃ a, ds = [a] ∧ dom a ∧ Pf = (· = f a) ∧ PXf = N0
def det2 (dom : D → D → Prop) (f : D → D → D) : List D → (D → Prop) → (Value → Prop) → Prop := fun ds Pf PXf => ∃ a b, ds = [a, b] ∧ dom a b ∧ Pf = (· = f a b) ∧ PXf = N0
def det3 (dom : D → D → D → Prop) (f : D → D → D → D) : List D → (D → Prop) → (Value → Prop) → Prop := fun ds Pf PXf => ∃ a b c, ds = [a, b, c] ∧ dom a b c ∧ Pf = (· = f a b c) ∧ PXf = N0
/-- data of bounded depth, all of it short -/
def nice : Nat → D → Bool
  | _, .str z => decide (z.length ≤ 4000) && PyData.strOk z
  | n + 1, .tup ds => decide (ds.length ≤ 4000) && ds.all (nice n)
  | n + 1, .lst ds => decide (ds.length ≤ 4000) && ds.all (nice n)
  | 0, .tup _ => false
  | 0, .lst _ => false
  | _, .non => true
  | _, .bl _ => true
  | _, .int _ => true
abbrev Nice (n : Nat) (d : D) : Prop := nice n d = true
theorem Nice.tup {n : Nat} {ds : List D} (h : Nice (n + 1) (.tup ds)) : ds.length ≤ 4000 ∧ ∀ d ∈ ds, Nice n d := by
  have h' : (decide (ds.length ≤ 4000) && ds.all (nice n)) = true := by unfold Nice at h; rw [nice] at h; exact h
  rw [Bool.and_eq_true, decide_eq_true_eq, List.all_eq_true] at h'
  exact h'
theorem Nice.lst {n : Nat} {ds : List D} (h : Nice (n + 1) (.lst ds)) : ds.length ≤ 4000 ∧ ∀ d ∈ ds, Nice n d := by
  have h' : (decide (ds.length ≤ 4000) && ds.all (nice n)) = true := by unfold Nice at h; rw [nice] at h; exact h
  rw [Bool.and_eq_true, decide_eq_true_eq, List.all_eq_true] at h'
  exact h'
theorem nice_tup {n : Nat} {ds : List D} (h1 : ds.length ≤ 4000) (h2 : ∀ d ∈ ds, Nice n d) : Nice (n + 1) (.tup ds) := by
  unfold Nice; rw [nice, Bool.and_eq_true, decide_eq_true_eq, List.all_eq_true]; exact ⟨h1, h2⟩
theorem nice_lst {n : Nat} {ds : List D} (h1 : ds.length ≤ 4000) (h2 : ∀ d ∈ ds, Nice n d) : Nice (n + 1) (.lst ds) := by
  unfold Nice; rw [nice, Bool.and_eq_true, decide_eq_true_eq, List.all_eq_true]; exact ⟨h1, h2⟩
theorem Nice.str {n : Nat} {z : Str} (h : Nice n (.str z)) : z.length ≤ 4000 ∧ PyData.strOk z = true := by
  have h' : (decide (z.length ≤ 4000) && PyData.strOk z) = true := by unfold Nice at h; cases n <;> (rw [nice] at h; exact h)
  rwa [Bool.and_eq_true, decide_eq_true_eq] at h'
theorem nice_str {n : Nat} {z : Str} (h1 : z.length ≤ 4000) (h2 : PyData.strOk z = true) : Nice n (.str z) := by
  unfold Nice; cases n <;> (rw [nice, Bool.and_eq_true, decide_eq_true_eq]; exact ⟨h1, h2⟩)
theorem Nice.mono : ∀ {n m : Nat} {d : D}, Nice n d → n ≤ m → Nice m d
  | n, m, .str z, h, _ => nice_str h.str.1 h.str.2
  | n, m, .non, _, _ => by cases m <;> rfl
  | n, m, .bl _, _, _ => by cases m <;> rfl
  | n, m, .int _, _, _ => by cases m <;> rfl
  | 0, _, .tup _, h, _ => by cases h
  | 0, _, .lst _, h, _ => by cases h
  | n + 1, 0, _, _, hm => by omega
  | n + 1, m + 1, .tup ds, h, hm => nice_tup h.tup.1 fun d hd => Nice.mono (h.tup.2 d hd) (by omega)
  | n + 1, m + 1, .lst ds, h, hm => nice_lst h.lst.1 fun d hd => Nice.mono (h.lst.2 d hd) (by omega)
theorem Nice.sized {n : Nat} {d : D} (h : Nice n d) (hk : isStr d = true ∨ isTup d = true ∨ isLst d = true) : sized d = true := by
  cases d with
  | str z => exact decide_eq_true (by have := h.str.1; omega)
  | tup _ => rfl
  | lst _ => rfl
  | non => rcases hk with h | h | h <;> cases h
  | bl _ => rcases hk with h | h | h <;> cases h
  | int _ => rcases hk with h | h | h <;> cases h
/-- as the library's data -/
theorem Nice.lay : ∀ {n : Nat} {d : D}, Nice n d → PyData.canLay0 d.py = true ∧ PyData.depth d.py ≤ n
  | n, .str z, h => ⟨by rw [D.py, PyData.canLay0]; exact h.str.2, by rw [D.py, PyData.depth]; exact Nat.zero_le _⟩
  | n, .non, _ => ⟨by rw [D.py, PyData.canLay0], by rw [D.py, PyData.depth]; exact Nat.zero_le _⟩
  | n, .bl _, _ => ⟨by rw [D.py, PyData.canLay0], by rw [D.py, PyData.depth]; exact Nat.zero_le _⟩
  | n, .int _, _ => ⟨by rw [D.py, PyData.canLay0], by rw [D.py, PyData.depth]; exact Nat.zero_le _⟩
  | 0, .tup _, h => by cases h
  | 0, .lst _, h => by cases h
  | n + 1, .tup ds, h => by
    have all : ∀ ds : List D, (∀ d ∈ ds, Nice n d) → PyData.canLayAll0 (D.pys ds) = true ∧ PyData.depthAll (D.pys ds) ≤ n := by
      intro ds
      induction ds with
      | nil => intro _; exact ⟨by rw [D.pys, PyData.canLayAll0], by rw [D.pys, PyData.depthAll]; exact Nat.zero_le _⟩
      | cons d r ih =>
        intro hd
        obtain ⟨a1, a2⟩ := Nice.lay (hd d List.mem_cons_self)
        obtain ⟨b1, b2⟩ := ih fun e he => hd e (List.mem_cons_of_mem _ he)
        refine ⟨by rw [D.pys, PyData.canLayAll0, a1, b1]; rfl, by rw [D.pys, PyData.depthAll]; omega⟩
    obtain ⟨a1, a2⟩ := all ds h.tup.2
    exact ⟨by rw [D.py, PyData.canLay0]; exact a1, by rw [D.py, PyData.depth]; omega⟩
  | n + 1, .lst ds, h => by
    have all : ∀ ds : List D, (∀ d ∈ ds, Nice n d) → PyData.canLayAll0 (D.pys ds) = true ∧ PyData.depthAll (D.pys ds) ≤ n := by
      intro ds
      induction ds with
      | nil => intro _; exact ⟨by rw [D.pys, PyData.canLayAll0], by rw [D.pys, PyData.depthAll]; exact Nat.zero_le _⟩
      | cons d r ih =>
        intro hd
        obtain ⟨a1, a2⟩ := Nice.lay (hd d List.mem_cons_self)
        obtain ⟨b1, b2⟩ := ih fun e he => hd e (List.mem_cons_of_mem _ he)
        refine ⟨by rw [D.pys, PyData.canLayAll0, a1, b1]; rfl, by rw [D.pys, PyData.depthAll]; omega⟩
    obtain ⟨a1, a2⟩ := all ds h.lst.2
    exact ⟨by rw [D.py, PyData.canLay0]; exact a1, by rw [D.py, PyData.depth]; omega⟩
theorem Nice.sh {n : Nat} {d : D} (h : Nice n d) (hn : n ≤ 64) : Sh d := by
  obtain ⟨a, b⟩ := h.lay
  show (PyData.canLay0 d.py && decide (PyData.depth d.py ≤ 64)) = true
  rw [a, Bool.true_and, decide_eq_true_eq]
  omega
end DL

set_option Elab.async false
set_option linter.all false
set_option maxRecDepth 100000
set_option maxHeartbeats 4000000
namespace DL
open PySem PySem.Spec PyProof.Rows L2 Evl
/-! short forms: everything told by one value -/
section
variable {X : Cx} {E : WK} {env : List Slot} {M : List MO} {PX : Value → Prop} {a b c e : Expr} {es rest : List Expr} {pos p p2 p3 p4 : Pos} {d d' da db dc : D} {b1 b2 b3 : Bool} {name : Str} {ps : List Str} {k : Nat}
theorem EV.to (h : EV X E env M e (· = d) PX) (q : d = d') : EV X E env M e (· = d') PX := q ▸ h
theorem EV.toB (h : EV X E env M e (· = .bl b1) PX) (q : b1 = b2) : EV X E env M e (· = .bl b2) PX := q ▸ h
theorem BV.to (h : BV X E env M e (· = b1) PX) (q : b1 = b2) : BV X E env M e (· = b2) PX := q ▸ h
theorem EV.isB (h : EV X E env M e (· = .bl b1) PX) : EV X E env M e (fun d => ∃ c, d = .bl c ∧ c = b1) PX := h.mono fun d q => ⟨b1, q, rfl⟩
theorem q_and (ha : EV X E env M a (· = .bl b1) PX) (hb : b1 = true → EV X E env M (.BoolOp .And (b :: rest) pos) (· = .bl b2) PX) : EV X E env M (.BoolOp .And (a :: b :: rest) pos) (· = .bl (b1 && b2)) PX := by
  refine e_and (P1 := (· = b1)) ha.isB (fun h => (hb h.symm).to (by rw [← h]; rfl)) fun h => by rw [← h]; rfl
theorem q_or (ha : EV X E env M a (· = .bl b1) PX) (hb : b1 = false → EV X E env M (.BoolOp .Or (b :: rest) pos) (· = .bl b2) PX) : EV X E env M (.BoolOp .Or (a :: b :: rest) pos) (· = .bl (b1 || b2)) PX := by
  refine e_or (P1 := (· = b1)) ha.isB (fun h => (hb h.symm).to (by rw [← h]; rfl)) fun h => by rw [← h]; rfl
theorem q_one {op} (ha : EV X E env M a (· = d) PX) : EV X E env M (.BoolOp op [a] pos) (· = d) PX := e_one ha
theorem q_not (ha : EV X E env M a (· = .bl b1) PX) : EV X E env M (.UnaryOp .Not a pos) (· = .bl (!b1)) PX := e_not (P1 := (· = b1)) ha.isB fun c h => by rw [h]
theorem t_and (ha : BV X E env M a (· = b1) PX) (hb : b1 = true → PW X (.BoolOp .And (b :: rest) pos) (tT X.K E env M (· = b2) PX)) : PW X (.BoolOp .And (a :: b :: rest) pos) (tT X.K E env M (· = (b1 && b2)) PX) := by
  refine b_and (P1 := (· = b1)) ha (fun h => ?_) fun h => by rw [← h]; rfl
  rw [← h, Bool.true_and]; exact hb h.symm
theorem t_or (ha : BV X E env M a (· = b1) PX) (hb : b1 = false → PW X (.BoolOp .Or (b :: rest) pos) (tT X.K E env M (· = b2) PX)) : PW X (.BoolOp .Or (a :: b :: rest) pos) (tT X.K E env M (· = (b1 || b2)) PX) := by
  refine b_or (P1 := (· = b1)) ha (fun h => ?_) fun h => by rw [← h]; rfl
  rw [← h, Bool.false_or]; exact hb h.symm
theorem t_and1 (ha : BV X E env M a (· = b1) PX) : PW X (.BoolOp .And [a] pos) (tT X.K E env M (· = b1) PX) := b_and1 ha
theorem t_or1 (ha : BV X E env M a (· = b1) PX) : PW X (.BoolOp .Or [a] pos) (tT X.K E env M (· = b1) PX) := b_or1 ha
theorem t_not (ha : BV X E env M a (· = b1) PX) : BV X E env M (.UnaryOp .Not a pos) (· = !b1) PX := b_not (ha.mono fun c h => by rw [h])
theorem t_val (h : EV X E env M e (· = .bl b1) PX) (he : ∀ whole, isTrue e X.env whole = (do let v ← whole; standAt e.pos; holding [v] (truthy v)) := by intro _; rfl) : BV X E env M e (· = b1) PX := b_val h.isB he
theorem t_w (h : PW X e (tT X.K E env M (· = b1) PX)) : BV X E env M e (· = b1) PX := h.pt
theorem q_if (hc : BV X E env M c (· = b1) PX) (ha : b1 = true → EV X E env M a (· = d) PX) (hb : b1 = false → EV X E env M b (· = d) PX) : EV X E env M (.IfExp c a b pos) (· = d) PX :=
  e_if (P1 := (· = b1)) hc (fun h => ha h.symm) fun h => hb h.symm

/-! ### operators -/
theorem q_op {op : Operator} {r : R2} (ho : OpR X (binaryOp op) r) (ha : EV X E env M a (· = da) PX) (hb : EV X E env M b (· = db) PX) (h : Bin X.K r da db (· = d)) : EV X E env M (.BinOp a op b pos) (· = d) PX :=
  e_op ho ha hb fun _ _ e1 e2 => by rw [e1, e2]; exact h
theorem q_cmp {op : CmpOp} {r : R2} (ho : OpR X (compareOp op) r) (ha : EV X E env M a (· = da) PX) (hb : EV X E env M b (· = db) PX) (hm : behindInMarks op b = false) (h : Bin X.K r da db (· = d)) : EV X E env M (.Compare a [op] [b] pos) (· = d) PX :=
  e_cmp ho ha hb hm fun _ _ e1 e2 => by rw [e1, e2]; exact h
theorem Bin.isB {K : PySem.W.Frag} {r : R2} (h : Bin K r da db (· = .bl b1)) : Bin K r da db (fun d => ∃ c, d = .bl c ∧ c = b1) := fun S H x y Q e rx ry k => h S H x y Q e rx ry fun d v S2 H2 q => k d v S2 H2 ⟨b1, q, rfl⟩
theorem t_cmp {op : CmpOp} {r : R2} (ho : OpR X (compareOp op) r) (ha : EV X E env M a (· = da) PX) (hb : EV X E env M b (· = db) PX) (hm : behindInMarks op b = false) (h : Bin X.K r da db (· = .bl b1)) : BV X E env M (.Compare a [op] [b] pos) (· = b1) PX :=
  b_cmp (P := (· = b1)) ho ha hb hm fun _ _ e1 e2 => by rw [e1, e2]; exact h.isB
theorem q_ix {r : R2} (hr : IxR X r) (ha : EV X E env M a (· = da) PX) (hb : EV X E env M b (· = db) PX) (h : Bin X.K r da db (· = d)) (hs : PlainIx b := by exact fun _ _ => rfl) : EV X E env M (.Subscript a b pos) (· = d) PX :=
  e_ix hr ha hb hs fun _ _ e1 e2 => by rw [e1, e2]; exact h
theorem q_chain {op op' : CmpOp} {r r' : R2} (ho : OpR X (compareOp op) r) (ho' : OpR X (compareOp op') r') (ha : EV X E env M a (· = da) PX) (hb : EV X E env M b (· = db) PX) (hc : EV X E env M c (· = dc) PX)
    (h : Bin X.K r da db (· = .bl b1)) (h2 : b1 = true → Bin X.K r' db dc (· = .bl b2)) (hm : lastMarks [op, op'] [b, c] = false := by with_unfolding_all rfl) : EV X E env M (.Compare a [op, op'] [b, c] pos) (· = .bl (b1 && b2)) PX :=
  e_chain (P1 := fun _ _ k => k = b1) ho ho' ha hb hc (fun _ _ e1 e2 => by rw [e1, e2]; exact h.isB) (fun _ _ _ e1 e2 e3 e4 => by rw [e2, e4]; rw [← e3, Bool.true_and]; exact h2 e3.symm) (fun _ _ _ _ e3 => by rw [← e3]; rfl) hm
theorem t_chain {op op' : CmpOp} {r r' : R2} (ho : OpR X (compareOp op) r) (ho' : OpR X (compareOp op') r') (ha : EV X E env M a (· = da) PX) (hb : EV X E env M b (· = db) PX) (hc : EV X E env M c (· = dc) PX)
    (h : Bin X.K r da db (· = .bl b1)) (h2 : b1 = true → Bin X.K r' db dc (· = .bl b2)) (hm : lastMarks [op, op'] [b, c] = false := by with_unfolding_all rfl) : BV X E env M (.Compare a [op, op'] [b, c] pos) (· = (b1 && b2)) PX :=
  b_chain (P := (· = (b1 && b2))) (P1 := fun _ _ k => k = b1) ho ho' ha hb hc (fun _ _ e1 e2 => by rw [e1, e2]; exact h.isB) (fun _ _ _ e1 e2 e3 e4 => by rw [e2, e4]; rw [← e3, Bool.true_and]; exact (h2 e3.symm).isB) (fun _ _ _ _ e3 => by rw [← e3]; rfl) hm
variable {i j : Int}
theorem bin_le {K} : Bin K (rI0 fun i j => .bl (decide (i ≤ j))) (.int i) (.int j) (· = .bl (decide (i ≤ j))) := bin_I0 (d := .bl (decide (i ≤ j))) (fun _ => rfl) rfl
theorem bin_lt {K} : Bin K (rI0 fun i j => .bl (decide (i < j))) (.int i) (.int j) (· = .bl (decide (i < j))) := bin_I0 (d := .bl (decide (i < j))) (fun _ => rfl) rfl
theorem bin_gt {K} : Bin K (rI0 fun i j => .bl (decide (j < i))) (.int i) (.int j) (· = .bl (decide (j < i))) := bin_I0 (d := .bl (decide (j < i))) (fun _ => rfl) rfl
theorem bin_ge {K} : Bin K (rI0 fun i j => .bl (decide (j ≤ i))) (.int i) (.int j) (· = .bl (decide (j ≤ i))) := bin_I0 (d := .bl (decide (j ≤ i))) (fun _ => rfl) rfl
theorem bin_add {K} : Bin K (rI0 fun i j => .int (i + j)) (.int i) (.int j) (· = .int (i + j)) := bin_I0 (d := .int (i + j)) (fun _ => rfl) rfl
theorem bin_sub {K} : Bin K (rI0 fun i j => .int (i - j)) (.int i) (.int j) (· = .int (i - j)) := bin_I0 (d := .int (i - j)) (fun _ => rfl) rfl
theorem q_add (ha : EV X E env M a (· = .int i) PX) (hb : EV X E env M b (· = .int j) PX) : EV X E env M (.BinOp a .Add b pos) (· = .int (i + j)) PX := q_op op_add ha hb bin_add
theorem q_sub (ha : EV X E env M a (· = .int i) PX) (hb : EV X E env M b (· = .int j) PX) : EV X E env M (.BinOp a .Sub b pos) (· = .int (i - j)) PX := q_op op_sub ha hb bin_sub
theorem t_lt (ha : EV X E env M a (· = .int i) PX) (hb : EV X E env M b (· = .int j) PX) : BV X E env M (.Compare a [.Lt] [b] pos) (· = decide (i < j)) PX := t_cmp op_lt ha hb (nomark _) bin_lt
theorem t_le (ha : EV X E env M a (· = .int i) PX) (hb : EV X E env M b (· = .int j) PX) : BV X E env M (.Compare a [.LtE] [b] pos) (· = decide (i ≤ j)) PX := t_cmp op_le ha hb (nomark _) bin_le
theorem t_gt (ha : EV X E env M a (· = .int i) PX) (hb : EV X E env M b (· = .int j) PX) : BV X E env M (.Compare a [.Gt] [b] pos) (· = decide (j < i)) PX := t_cmp op_gt ha hb (nomark _) bin_gt
theorem t_ge (ha : EV X E env M a (· = .int i) PX) (hb : EV X E env M b (· = .int j) PX) : BV X E env M (.Compare a [.GtE] [b] pos) (· = decide (j ≤ i)) PX := t_cmp op_ge ha hb (nomark _) bin_ge
theorem q_lt (ha : EV X E env M a (· = .int i) PX) (hb : EV X E env M b (· = .int j) PX) : EV X E env M (.Compare a [.Lt] [b] pos) (· = .bl (decide (i < j))) PX := q_cmp op_lt ha hb (nomark _) bin_lt
theorem q_ltS {x y : Str} (ha : EV X E env M a (· = .str x) PX) (hb : EV X E env M b (· = .str y) PX) : EV X E env M (.Compare a [.Lt] [b] pos) (· = .bl (decide (x.cps.toList < y.cps.toList))) PX := q_cmp op_lt_str ha hb (nomark _) (bin_ltS rfl)
theorem q_eqS (ha : EV X E env M a (· = da) PX) (hb : EV X E env M b (· = db) PX) (h : scD da db = true) : EV X E env M (.Compare a [.Eq] [b] pos) (· = .bl (eqD da db)) PX := q_cmp op_eq ha hb (nomark _) (bin_eqS h rfl)
theorem t_eqS (ha : EV X E env M a (· = da) PX) (hb : EV X E env M b (· = db) PX) (h : scD da db = true) : BV X E env M (.Compare a [.Eq] [b] pos) (· = eqD da db) PX := t_cmp op_eq ha hb (nomark _) (bin_eqS h rfl)
theorem q_neS (ha : EV X E env M a (· = da) PX) (hb : EV X E env M b (· = db) PX) (h : scD da db = true) : EV X E env M (.Compare a [.NotEq] [b] pos) (· = .bl (!eqD da db)) PX := q_cmp op_ne ha hb (nomark _) (bin_neS h rfl)
theorem t_neS (ha : EV X E env M a (· = da) PX) (hb : EV X E env M b (· = db) PX) (h : scD da db = true) : BV X E env M (.Compare a [.NotEq] [b] pos) (· = !eqD da db) PX := t_cmp op_ne ha hb (nomark _) (bin_neS h rfl)
theorem q_eqI (ha : EV X E env M a (· = .int i) PX) (hb : EV X E env M b (· = .int j) PX) : EV X E env M (.Compare a [.Eq] [b] pos) (· = .bl (decide (i = j))) PX := q_eqS ha hb rfl
theorem t_eqI (ha : EV X E env M a (· = .int i) PX) (hb : EV X E env M b (· = .int j) PX) : BV X E env M (.Compare a [.Eq] [b] pos) (· = decide (i = j)) PX := t_eqS ha hb rfl
theorem t_neI (ha : EV X E env M a (· = .int i) PX) (hb : EV X E env M b (· = .int j) PX) : BV X E env M (.Compare a [.NotEq] [b] pos) (· = !decide (i = j)) PX := t_neS ha hb rfl
theorem q_eqD (hu : X.A.units + 64 < cLine) (ha : EV X E env M a (· = da) PX) (hb : EV X E env M b (· = db) PX) (h1 : Sh da) (h2 : Sh db) : EV X E env M (.Compare a [.Eq] [b] pos) (· = .bl (PyData.eqv da.py db.py)) PX := q_cmp (op_eqD hu) ha hb (nomark _) (bin_eq h1 h2 rfl)
theorem t_eqD (hu : X.A.units + 64 < cLine) (ha : EV X E env M a (· = da) PX) (hb : EV X E env M b (· = db) PX) (h1 : Sh da) (h2 : Sh db) : BV X E env M (.Compare a [.Eq] [b] pos) (· = PyData.eqv da.py db.py) PX := t_cmp (op_eqD hu) ha hb (nomark _) (bin_eq h1 h2 rfl)
theorem t_neD (hu : X.A.units + 64 < cLine) (ha : EV X E env M a (· = da) PX) (hb : EV X E env M b (· = db) PX) (h1 : Sh da) (h2 : Sh db) : BV X E env M (.Compare a [.NotEq] [b] pos) (· = !PyData.eqv da.py db.py) PX := t_cmp (op_neD hu) ha hb (nomark _) (bin_ne h1 h2 rfl)
theorem q_ixT {ds : List D} (ha : EV X E env M a (· = .tup ds) PX) (hb : EV X E env M b (· = .int i) PX) (h : atI ds i = some d) (hs : PlainIx b := by exact fun _ _ => rfl) : EV X E env M (.Subscript a b pos) (· = d) PX := q_ix ix_tup ha hb (bin_ixT h rfl) hs
theorem q_ixL {ds : List D} (ha : EV X E env M a (· = .lst ds) PX) (hb : EV X E env M b (· = .int i) PX) (h : atI ds i = some d) (hs : PlainIx b := by exact fun _ _ => rfl) : EV X E env M (.Subscript a b pos) (· = d) PX := q_ix ix_list ha hb (bin_ixL h rfl) hs

/-! ### calls -/
theorem DV.n1 (ha : EV X E env M a (· = da) PX) (hs : starEach [a] X.env = (false, eval a X.env) :: starEach [] X.env := by rfl) : DV X E env M [a] (· = [da]) PX :=
  AV.mono (d_cons ha d_nil hs) fun sl ⟨ds, e, x, r, e2, e3, e4⟩ => ⟨[da], by rw [e, e2, e3, e4], rfl⟩
theorem DV.n2 (ha : EV X E env M a (· = da) PX) (hb : EV X E env M b (· = db) PX) (hs : starEach [a, b] X.env = (false, eval a X.env) :: starEach [b] X.env := by rfl) (hs2 : starEach [b] X.env = (false, eval b X.env) :: starEach [] X.env := by rfl) : DV X E env M [a, b] (· = [da, db]) PX :=
  AV.mono (d_cons ha (DV.n1 hb hs2) hs) fun sl ⟨ds, e, x, r, e2, e3, e4⟩ => ⟨[da, db], by rw [e, e2, e3, e4], rfl⟩
theorem DV.n3 (ha : EV X E env M a (· = da) PX) (hb : EV X E env M b (· = db) PX) (hc : EV X E env M c (· = dc) PX) (hs : starEach [a, b, c] X.env = (false, eval a X.env) :: starEach [b, c] X.env := by rfl) (hs2 : starEach [b, c] X.env = (false, eval b X.env) :: starEach [c] X.env := by rfl) (hs3 : starEach [c] X.env = (false, eval c X.env) :: starEach [] X.env := by rfl) : DV X E env M [a, b, c] (· = [da, db, dc]) PX :=
  AV.mono (d_cons ha (DV.n2 hb hc hs2 hs3) hs) fun sl ⟨ds, e, x, r, e2, e3, e4⟩ => ⟨[da, db, dc], by rw [e, e2, e3, e4], rfl⟩
theorem q_call1 {dom : D → Prop} {f : D → D} (h : Has X.prog X.w X.K X.mg X.base CX0 name ps k (spF X.K (det1 dom f))) (hr : Room k X.A) (hg : Gl X name) (ha : EV X E env M a (· = da) PX) (hd : dom da)
    (hdb : (name == ("__debug__" : Str)) = false := by decide) (he : starEach [a] X.env = (false, eval a X.env) :: starEach [] X.env := by rfl) (hpl : (backTo pos (starEach [] X.env)).any (·.1) = false := by rfl) : EV X E env M (.Call (.Name name p) [a] [] pos) (· = f da) PX :=
  e_call0 h hr hg (DV.n1 ha he) (fun sl ⟨ds, e, e2⟩ => ⟨ds, (· = f da), e, ⟨da, e2, hd, rfl, rfl⟩, fun _ z => z⟩) hdb he hpl
theorem q_call2 {dom : D → D → Prop} {f : D → D → D} (h : Has X.prog X.w X.K X.mg X.base CX0 name ps k (spF X.K (det2 dom f))) (hr : Room k X.A) (hg : Gl X name) (ha : EV X E env M a (· = da) PX) (hb : EV X E env M b (· = db) PX) (hd : dom da db)
    (hdb : (name == ("__debug__" : Str)) = false := by decide) (he : starEach [a, b] X.env = (false, eval a X.env) :: starEach [b] X.env := by rfl) (he2 : starEach [b] X.env = (false, eval b X.env) :: starEach [] X.env := by rfl) (hpl : (backTo pos (starEach [b] X.env)).any (·.1) = false := by rfl) : EV X E env M (.Call (.Name name p) [a, b] [] pos) (· = f da db) PX :=
  e_call0 h hr hg (DV.n2 ha hb he he2) (fun sl ⟨ds, e, e2⟩ => ⟨ds, (· = f da db), e, ⟨da, db, e2, hd, rfl, rfl⟩, fun _ z => z⟩) hdb he hpl
theorem q_call3 {dom : D → D → D → Prop} {f : D → D → D → D} (h : Has X.prog X.w X.K X.mg X.base CX0 name ps k (spF X.K (det3 dom f))) (hr : Room k X.A) (hg : Gl X name) (ha : EV X E env M a (· = da) PX) (hb : EV X E env M b (· = db) PX) (hc : EV X E env M c (· = dc) PX) (hd : dom da db dc)
    (hdb : (name == ("__debug__" : Str)) = false := by decide) (he : starEach [a, b, c] X.env = (false, eval a X.env) :: starEach [b, c] X.env := by rfl) (he2 : starEach [b, c] X.env = (false, eval b X.env) :: starEach [c] X.env := by rfl) (he3 : starEach [c] X.env = (false, eval c X.env) :: starEach [] X.env := by rfl) (hpl : (backTo pos (starEach [b, c] X.env)).any (·.1) = false := by rfl) :
    EV X E env M (.Call (.Name name p) [a, b, c] [] pos) (· = f da db dc) PX :=
  e_call0 h hr hg (DV.n3 ha hb hc he he2 he3) (fun sl ⟨ds, e, e2⟩ => ⟨ds, (· = f da db dc), e, ⟨da, db, dc, e2, hd, rfl, rfl⟩, fun _ z => z⟩) hdb he hpl
theorem q_len (hg : Gl X "len") (hm : X.mg "len" = none) (ha : EV X E env M a (· = d) PX) (hz : sized d = true) (he : starEach [a] X.env = (false, eval a X.env) :: starEach [] X.env := by rfl) (hpl : (backTo pos (starEach [] X.env)).any (·.1) = false := by rfl) : EV X E env M (.Call (.Name "len" p) [a] [] pos) (· = .int (lenD d)) PX :=
  e_callB call_len hg hm PySem.boot_len (DV.n1 ha he) (fun ds e => by rw [e]; exact fnc_len hz rfl) (by decide) (by decide) he hpl
theorem q_all {bs : List Bool} (hg : Gl X "all") (hm : X.mg "all" = none) (hc : X.calm = true) (ha : EV X E env M a (· = .lst (bs.map D.bl)) PX) (he : starEach [a] X.env = (false, eval a X.env) :: starEach [] X.env := by rfl) (hpl : (backTo pos (starEach [] X.env)).any (·.1) = false := by rfl) : EV X E env M (.Call (.Name "all" p) [a] [] pos) (· = .bl (bs.all id)) PX :=
  e_callB (cr_all hc) hg hm (by decide +kernel) (DV.n1 ha he) (fun ds e => by rw [e]; exact fnc_all rfl) (by decide) (by decide) he hpl
theorem q_any {bs : List Bool} (hg : Gl X "any") (hm : X.mg "any" = none) (hc : X.calm = true) (ha : EV X E env M a (· = .lst (bs.map D.bl)) PX) (he : starEach [a] X.env = (false, eval a X.env) :: starEach [] X.env := by rfl) (hpl : (backTo pos (starEach [] X.env)).any (·.1) = false := by rfl) : EV X E env M (.Call (.Name "any" p) [a] [] pos) (· = .bl (bs.any id)) PX :=
  e_callB (cr_any hc) hg hm (by decide +kernel) (DV.n1 ha he) (fun ds e => by rw [e]; exact fnc_any rfl) (by decide) (by decide) he hpl
theorem q_tupleL {ds : List D} (hg : Gl X "tuple") (hm : X.mg "tuple" = none) (ha : EV X E env M a (· = .lst ds) PX) (he : starEach [a] X.env = (false, eval a X.env) :: starEach [] X.env := by rfl) (hpl : (backTo pos (starEach [] X.env)).any (·.1) = false := by rfl) : EV X E env M (.Call (.Name "tuple" p) [a] [] pos) (· = .tup ds) PX :=
  e_callTy call_tuple_of hg hm (by decide +kernel) (DV.n1 ha he) (fun l e => by rw [e]; exact fnc_tupleL rfl) (by decide) (by decide) he hpl
theorem q_min2 (hg : Gl X "min") (hm : X.mg "min" = none) (hc : X.calm = true) (ha : EV X E env M a (· = .int i) PX) (hb : EV X E env M b (· = .int j) PX) (he : starEach [a, b] X.env = (false, eval a X.env) :: starEach [b] X.env := by rfl) (he2 : starEach [b] X.env = (false, eval b X.env) :: starEach [] X.env := by rfl) (hpl : (backTo pos (starEach [b] X.env)).any (·.1) = false := by rfl) :
    EV X E env M (.Call (.Name "min" p) [a, b] [] pos) (· = .int (if j < i then j else i)) PX := e_callB (call_min2 hc) hg hm (by decide +kernel) (DV.n2 ha hb he he2) (fun ds e => by rw [e]; exact fnc_min2 rfl) (by decide) (by decide) he hpl
theorem q_max2 (hg : Gl X "max") (hm : X.mg "max" = none) (hc : X.calm = true) (ha : EV X E env M a (· = .int i) PX) (hb : EV X E env M b (· = .int j) PX) (he : starEach [a, b] X.env = (false, eval a X.env) :: starEach [b] X.env := by rfl) (he2 : starEach [b] X.env = (false, eval b X.env) :: starEach [] X.env := by rfl) (hpl : (backTo pos (starEach [b] X.env)).any (·.1) = false := by rfl) :
    EV X E env M (.Call (.Name "max" p) [a, b] [] pos) (· = .int (if j > i then j else i)) PX := e_callB (call_max2 hc) hg hm (by decide +kernel) (DV.n2 ha hb he he2) (fun ds e => by rw [e]; exact fnc_max2 rfl) (by decide) (by decide) he hpl
theorem q_tup1 (ha : EV X E env M a (· = da) PX) {x1} (he : starEach [a] X.env = (false, eval a X.env) :: starEach [] X.env := by rfl) : EV X E env M (.Tuple [a] x1 pos) (· = .tup [da]) PX := e_tup (DV.n1 ha he) fun ds e => by rw [e]; exact ⟨by simp, rfl⟩
theorem q_tup2 (ha : EV X E env M a (· = da) PX) (hb : EV X E env M b (· = db) PX) {x1} (he : starEach [a, b] X.env = (false, eval a X.env) :: starEach [b] X.env := by rfl) (he2 : starEach [b] X.env = (false, eval b X.env) :: starEach [] X.env := by rfl) : EV X E env M (.Tuple [a, b] x1 pos) (· = .tup [da, db]) PX := e_tup (DV.n2 ha hb he he2) fun ds e => by rw [e]; exact ⟨by simp, rfl⟩
theorem q_tup0 {x1} : EV X E env M (.Tuple [] x1 pos) (· = .tup []) PX := e_tup d_nil fun ds e => by rw [e]; exact ⟨by simp, rfl⟩
theorem q_lst0 : EV X E env M (.List [] pos) (· = .lst []) PX := e_lst d_nil fun ds e => by rw [e]; exact ⟨by simp, rfl⟩
theorem n_lst0 : NV X E env M (.List [] pos) (· = .ml []) PX := n_lst d_nil fun ds e => by rw [e]; exact ⟨by simp, rfl⟩
section
variable (hg : Gl X "isinstance") (hm : X.mg "isinstance" = none)
include hg hm
theorem q_isStr (hg2 : Gl X "str") (hm2 : X.mg "str" = none) (ha : EV X E env M a (· = d) PX) (h1 : starEach [a, .Name "str" p2] X.env = (false, eval a X.env) :: starEach [.Name "str" p2] X.env := by rfl) (h2 : starEach [.Name "str" p2] X.env = (false, eval (.Name "str" p2) X.env) :: starEach [] X.env := by rfl) (hpl : (backTo pos (starEach [.Name "str" p2] X.env)).any (·.1) = false := by rfl) :
    EV X E env M (.Call (.Name "isinstance" p) [a, .Name "str" p2] [] pos) (· = .bl (isStr d)) PX := e_isi hg hm hg2 hm2 (by decide +kernel) kit_str ha (fun d e => by rw [e]) (by decide) (by decide) h1 h2 hpl
theorem q_isInt (hg2 : Gl X "int") (hm2 : X.mg "int" = none) (ha : EV X E env M a (· = d) PX) (h1 : starEach [a, .Name "int" p2] X.env = (false, eval a X.env) :: starEach [.Name "int" p2] X.env := by rfl) (h2 : starEach [.Name "int" p2] X.env = (false, eval (.Name "int" p2) X.env) :: starEach [] X.env := by rfl) (hpl : (backTo pos (starEach [.Name "int" p2] X.env)).any (·.1) = false := by rfl) :
    EV X E env M (.Call (.Name "isinstance" p) [a, .Name "int" p2] [] pos) (· = .bl (isInt d)) PX := e_isi hg hm hg2 hm2 (by decide +kernel) kit_int ha (fun d e => by rw [e]) (by decide) (by decide) h1 h2 hpl
theorem q_isBool (hg2 : Gl X "bool") (hm2 : X.mg "bool" = none) (ha : EV X E env M a (· = d) PX) (h1 : starEach [a, .Name "bool" p2] X.env = (false, eval a X.env) :: starEach [.Name "bool" p2] X.env := by rfl) (h2 : starEach [.Name "bool" p2] X.env = (false, eval (.Name "bool" p2) X.env) :: starEach [] X.env := by rfl) (hpl : (backTo pos (starEach [.Name "bool" p2] X.env)).any (·.1) = false := by rfl) :
    EV X E env M (.Call (.Name "isinstance" p) [a, .Name "bool" p2] [] pos) (· = .bl (isBool d)) PX := e_isi hg hm hg2 hm2 (by decide +kernel) kit_bool ha (fun d e => by rw [e]) (by decide) (by decide) h1 h2 hpl
theorem q_isTup (hg2 : Gl X "tuple") (hm2 : X.mg "tuple" = none) (ha : EV X E env M a (· = d) PX) (h1 : starEach [a, .Name "tuple" p2] X.env = (false, eval a X.env) :: starEach [.Name "tuple" p2] X.env := by rfl) (h2 : starEach [.Name "tuple" p2] X.env = (false, eval (.Name "tuple" p2) X.env) :: starEach [] X.env := by rfl) (hpl : (backTo pos (starEach [.Name "tuple" p2] X.env)).any (·.1) = false := by rfl) :
    EV X E env M (.Call (.Name "isinstance" p) [a, .Name "tuple" p2] [] pos) (· = .bl (isTup d)) PX := e_isi hg hm hg2 hm2 (by decide +kernel) kit_tup ha (fun d e => by rw [e]) (by decide) (by decide) h1 h2 hpl
theorem q_isLst (hg2 : Gl X "list") (hm2 : X.mg "list" = none) (ha : EV X E env M a (· = d) PX) (h1 : starEach [a, .Name "list" p2] X.env = (false, eval a X.env) :: starEach [.Name "list" p2] X.env := by rfl) (h2 : starEach [.Name "list" p2] X.env = (false, eval (.Name "list" p2) X.env) :: starEach [] X.env := by rfl) (hpl : (backTo pos (starEach [.Name "list" p2] X.env)).any (·.1) = false := by rfl) :
    EV X E env M (.Call (.Name "isinstance" p) [a, .Name "list" p2] [] pos) (· = .bl (isLst d)) PX := e_isi hg hm hg2 hm2 (by decide +kernel) kit_lst ha (fun d e => by rw [e]) (by decide) (by decide) h1 h2 hpl
end
/-- [elt for x in ..] -/
theorem q_lc {elt tg iter : Expr} {scope : Scope} {x : Str} {i : Nat} {ds : List D} {f : D → D} (hc : X.calm = true) (hN : X.N.Nodup) (hi : IV X E env M tg iter (· = ds) PX) (ok : BlkOk X.N X.env.scope scope [(x, i)]) (hg : ∀ (s : Shared) (H : Hp) (C : Addr) (cl : List (Str × Addr)) (fp : List Addr), PG (X.blk s H scope (compEnvC scope cl C X.env) fp) tg (gName i))
    (hl : ds.length ≤ 100000) (he : ∀ d ∈ ds, ∀ (s : Shared) (H : Hp) (C : Addr) (cl : List (Str × Addr)) (fp : List Addr), EV (X.blk s H scope (compEnvC scope cl C X.env) fp) E00 ((wipeE env [i]).set i (.dat d)) M elt (· = f d) N0) (hs : ∀ x, foldedSetIterable iter X.env x = pure x := by intro _; rfl) :
    EV X E env M (.ListComp elt [⟨tg, iter, [], 0⟩] scope pos) (· = .lst (ds.map f)) PX :=
  e_lc (Pt := fun _ b => b = true) (Pe := fun d r => r = f d) hc hN hi ok hg tg1
    ⟨fun _ d _ _ => ⟨_, rfl⟩, fun ds' e => by rw [e]; exact hl, fun ds' d env' e hm _ ha s H C cl fp => by subst ha; exact he d (e ▸ hm) s H C cl fp, fun _ _ _ _ _ _ _ _ _ _ _ => ts_nil rfl⟩ (fun ds' rs e h => by rw [h.map, e]) hs
/-- [elt for x in .. if ..] -/
theorem q_lcf {elt tg iter tst : Expr} {scope : Scope} {x : Str} {i : Nat} {ds : List D} {f : D → D} {c : D → Bool} (hc : X.calm = true) (hN : X.N.Nodup) (hi : IV X E env M tg iter (· = ds) PX) (ok : BlkOk X.N X.env.scope scope [(x, i)]) (hg : ∀ (s : Shared) (H : Hp) (C : Addr) (cl : List (Str × Addr)) (fp : List Addr), PG (X.blk s H scope (compEnvC scope cl C X.env) fp) tg (gName i))
    (hl : ds.length ≤ 100000) (ht : ∀ d ∈ ds, ∀ (s : Shared) (H : Hp) (C : Addr) (cl : List (Str × Addr)) (fp : List Addr), BV (X.blk s H scope (compEnvC scope cl C X.env) fp) E00 ((wipeE env [i]).set i (.dat d)) M tst (· = c d) N0)
    (he : ∀ d ∈ ds, c d = true → ∀ (s : Shared) (H : Hp) (C : Addr) (cl : List (Str × Addr)) (fp : List Addr), EV (X.blk s H scope (compEnvC scope cl C X.env) fp) E00 ((wipeE env [i]).set i (.dat d)) M elt (· = f d) N0) (hs : ∀ x, foldedSetIterable iter X.env x = pure x := by intro _; rfl) :
    EV X E env M (.ListComp elt [⟨tg, iter, [tst], 0⟩] scope pos) (· = .lst ((ds.filter c).map f)) PX :=
  e_lc (Pt := fun d b => b = c d) (Pe := fun d r => r = f d) hc hN hi ok hg tg1
    ⟨fun _ d _ _ => ⟨_, rfl⟩, fun ds' e => by rw [e]; exact hl, fun ds' d env' e hm hp ha s H C cl fp => by subst ha; exact he d (e ▸ hm) hp.symm s H C cl fp, fun ds' d env' e hm ha s H C cl fp => by subst ha; exact pts_one (ht d (e ▸ hm) s H C cl fp)⟩ (fun ds' rs e h => by rw [h.fmap, e]) hs
end
end DL

set_option Elab.async false
set_option linter.all false
set_option maxRecDepth 100000
set_option maxHeartbeats 4000000
namespace DL
open PySem PySem.Spec PyProof.Rows L2 Evl
/-! a set made of a list of numbers and texts -/
def stepK (l : List Key) (k : Key) : List Key := if l.any (fun x => decide (x = k)) then l else l ++ [k]
def dedK (ks : List Key) : List Key := ks.foldl stepK []
def firstK (val : Nat → Key) (i : Nat) : List Key := dedK ((List.range i).map val)
theorem firstK_succ (val : Nat → Key) (i : Nat) : firstK val (i + 1) = stepK (firstK val i) (val i) := by
  unfold firstK dedK; rw [List.range_succ, List.map_append, List.foldl_append]; rfl
theorem stepK_len (l : List Key) (k : Key) : (stepK l k).length = if l.any (fun x => decide (x = k)) then l.length else l.length + 1 := by
  unfold stepK; split <;> simp
theorem firstK_le (val : Nat → Key) : ∀ i, (firstK val i).length ≤ i
  | 0 => Nat.le_refl _
  | i + 1 => by
    have := firstK_le val i
    rw [firstK_succ, stepK_len]; split <;> omega
theorem stepK_any (l : List Key) (v k : Key) : (stepK l v).any (fun x => decide (x = k)) = (l.any (fun x => decide (x = k)) || decide (k = v)) := by
  unfold stepK
  by_cases h : l.any (fun x => decide (x = v)) = true
  · rw [if_pos h]
    by_cases e : k = v
    · subst e; rw [h]; simp
    · simp [e]
  · rw [if_neg h, List.any_append]
    by_cases e : k = v
    · subst e; simp
    · have e' : ¬ v = k := fun q => e q.symm
      simp [e, e']
theorem setOf_eq {prog : Program} {w : World} {h : Heap} {a : Addr} {S S' : Key → Bool} {n n' : Nat} (hS : h.SetOf (mixKind prog w) a S n) (e : ∀ k, S k = S' k) (en : n = n') : h.SetOf (mixKind prog w) a S' n' := by
  obtain rfl : S = S' := funext e
  obtain rfl := en
  exact hS
theorem keyIs_scan {k : Key} {v : Value} (h : keyIs k v = true) : v.scannable = true := by
  rcases keyIs_shape h with ⟨i, t, _, rfl⟩ | ⟨x, t, _, rfl⟩ <;> rfl
section
variable {prog : Program} {w : World} {A : Around} {R : Result → Shared → Prop} {I : Addr} {fp wr : List Addr} {G : Array GenState → Array GenState → Prop} {n : Nat} {Pv : Nat → Value → Prop} {St : Nat → Shared → Prop}
theorem set_loopK (W : WalksS prog w A.in1 I fp wr G n Pv St) (S : Addr) (hSf : S ∉ fp) (val : Nat → Key) (hval : ∀ i v, Pv i v → keyIs (val i) v = true) (hb : n + 1 < scanBound) :
    ∀ (k i : Nat) (s : Shared), n - i = k → i ≤ n → St i s → s.heap.SetOf (mixKind prog w) S (fun k' => (firstK val i).any (fun x => decide (x = k'))) (firstK val i).length →
      (∀ s', Moved (S :: wr) G s s' → s'.heap.SetOf (mixKind prog w) S (fun k' => (firstK val n).any (fun x => decide (x = k'))) (firstK val n).length → R (.ok (.ret .none)) s') →
      codeAny (model prog w) A (.builtin "set.update.loop" ⟨[.ref S, .ref I], []⟩) R s := by
  have hSw : S ∉ wr := fun h => hSf (W.sub _ h)
  have hsub : ∀ b ∈ wr, b ∈ S :: wr := fun b hb => List.mem_cons_of_mem _ hb
  have kept : ∀ {s s' : Shared} {T : Key → Bool} {m : Nat}, Moved wr G s s' → s.heap.SetOf (mixKind prog w) S T m → s'.heap.SetOf (mixKind prog w) S T m := fun hm h => by
    obtain ⟨o, es, ep, t, ho, rest⟩ := h
    exact ⟨o, es, ep, t, hm.heap S _ hSw ho, rest⟩
  intro k
  induction k with
  | zero =>
    intro i s hk hi hst hS hR
    obtain rfl : i = n := by omega
    refine codeAny_builtin F.entry_set_update_loop ?_
    rw [Around.under_plainId F.plain_set_update_loop _]
    show wpAny _ A.in1 (pyNext (.ref I) >>= _) _ _ s
    refine wpAny_bind (W.done s _ _ hst fun s' hm => ?_)
    show wpAny _ A.in1 (ret Value.none) _ _ s'
    exact wpAny_pure (hR s' (hm.mono hsub) (kept hm hS))
  | succ k ih =>
    intro i s hk hi hst hS hR
    have hlt : i < n := by omega
    refine codeAny_builtin F.entry_set_update_loop ?_
    rw [Around.under_plainId F.plain_set_update_loop _]
    show wpAny _ A.in1 (pyNext (.ref I) >>= _) _ _ s
    refine wpAny_bind (W.item i s _ _ hlt hst fun v s' hP hst' hm => ?_)
    have hv := hval i v hP
    have hS' := kept hm hS
    show wpAny _ A.in1 (holding [v] (setAdd S v) >>= _) _ _ s'
    refine wpAny_bind (wpAny_holding ?_)
    unfold setAdd
    refine wpAny_holding (wpAny_bind ((mixKind prog w).pyHash (k := val i) hv ?_))
    have hroom : (firstK val i).length + 1 < scanBound := by have := firstK_le val i; omega
    refine wpAny_setAddHashed_of (knd := mixKind prog w) (s := { s' with toks := s'.toks + 1 }) hv (keyIs_scan hv) hS' hroom fun h' hsb hS2 => ?_
    have hSi : h'.SetOf (mixKind prog w) S (fun k' => (firstK val (i + 1)).any (fun x => decide (x = k'))) (firstK val (i + 1)).length :=
      setOf_eq hS2 (fun k' => by rw [firstK_succ, stepK_any]) (by rw [firstK_succ, stepK_len])
    refine wpAny_pure ⟨plainId_quiet F.plain_set_update_loop _, ih (i + 1) _ (by omega) hlt (W.frame _ s' _ _ hst' (Nat.le_succ _) fun b hb o e => ?_) hSi fun s'' hm'' hS'' => ?_⟩
    · rw [hsb.2 b (fun h : b = S => hSf (by rw [← h]; exact hb))]; exact e
    · refine hR s'' (Moved.trans W.gtrans ((hm.mono hsub).then_heap (Nat.le_succ _) fun b o hb e => ?_) hm'') hS''
      rw [hsb.2 b (fun h : b = S => hb (by rw [h]; exact List.mem_cons_self))]; exact e
end

section
variable {prog : Program} {w : World} {A : Around} {E : Value → Shared → Prop} {s : Shared}
theorem call_setK {l : Addr} {items : Array Value} {val : Nat → Key} {Q : Value → Shared → Prop} (hh : A.handled = none) (hl : s.heap.IsList l items) (hval : ∀ (i : Nat) (v : Value), items[i]? = some v → keyIs (val i) v = true) (hb : items.size + 1 < scanBound)
    (h : ∀ (h' : Heap) (tk : Nat), h'.SetOf (mixKind prog w) s.heap.objs.size (fun k' => (firstK val items.size).any (fun x => decide (x = k'))) (firstK val items.size).length →
      (∀ b o, b < s.heap.objs.size → s.heap.get? b = some o → h'.get? b = some o) → Q (.ref s.heap.objs.size) { s with heap := h', toks := tk }) :
    wpAny (model prog w) A (call (.type "set") [.ref l]) Q E s := by
  obtain ⟨c, tl, hmro⟩ := F.called_set.mro
  have hmade := F.called_set.made
  have hsub := F.called_set.sub
  refine wpAny_call (codeAny_of_tree ?_)
  show wpAny _ _ (callAny (.type "set") _) _ _ _
  refine wpAny_pure ⟨Code.quiet_builtin _ (by decide +kernel), codeAny_builtin F.entry_type_call ?_⟩
  rw [Around.under_plain (weight_type_call_type "set" [.ref l] []) rfl]
  have h1 := F.called_set.notType
  have h2 := F.called_set.canCreate
  have hct := F.typeCall_set_1 (.ref l)
  repeat (any_goals (first | assumption | wp_step))
  refine codeAny_mono (code_set_new_1 (.ref l) (E := E) (Q₁ := fun obj s₁ => ∃ led : Bool, obj = .ref s.heap.objs.size ∧ s₁ = { s with heap := s.heap.push { cls := .type "set", dict := none, data := .set #[] 0 (.fresh 0 0 led) } }) fun led => ⟨led, rfl, rfl⟩) fun r s₁ hr => ?_
  cases r with
  | error e => exact hr
  | ok fl =>
    cases fl with
    | ret obj =>
      obtain ⟨led, rfl, rfl⟩ := hr
      have hS : (s.heap.push { cls := .type "set", dict := none, data := .set #[] 0 (.fresh 0 0 led) }).get? s.heap.objs.size = some { cls := .type "set", dict := none, data := .set #[] 0 (.fresh 0 0 led) } := Heap.get?_push_size _ rfl
      have hT : Shared.TypeIs { s with heap := s.heap.push { cls := .type "set", dict := none, data := .set #[] 0 (.fresh 0 0 led) } } (.ref s.heap.objs.size) "set" := ⟨_, hS, rfl⟩
      have hli := F.called_set.init.lookup
      have hbi := F.called_set.init.bind (.ref s.heap.objs.size)
      repeat (any_goals (first | assumption | wp_step))
      refine codeAny_mono (codeAny_call_builtin (R := wants (fun r s₂ => r = .none ∧ ∃ h' tk, s₂ = { s with heap := h', toks := tk } ∧
          h'.SetOf (mixKind prog w) s.heap.objs.size (fun k' => (firstK val items.size).any (fun x => decide (x = k'))) (firstK val items.size).length ∧
          (∀ b o, b < s.heap.objs.size → s.heap.get? b = some o → h'.get? b = some o)) E) F.called_set.init.plain F.entry_set_init (check_set_init_1 hT ?_)) fun r₂ s₂ hr₂ => ?_
      · obtain ⟨ol, hol, hcl, nl, hdl⟩ := hl
        obtain ⟨ocls, odict, odata, oslots⟩ := ol
        simp only at hcl hdl
        subst hcl; subst hdl
        have hol' : (s.heap.push { cls := .type "set", dict := none, data := .set #[] 0 (.fresh 0 0 led) }).get? l = some { cls := .type "list", dict := odict, data := .seq items nl, slots := oslots } := Heap.get?_push_of_some _ hol
        have hsls := F.sub_list_set
        have hslf := F.sub_list_frozenset
        have hne : (Value.type "list" == Value.type "dict") = false := by decide
        have hl1 : (s.heap.push { cls := .type "set", dict := none, data := .set #[] 0 (.fresh 0 0 led) }).IsList l items := ⟨_, hol', rfl, nl, rfl⟩
        unfold Builtin.«set.__init__» noKeywords Builtin.Frozenset.updateFrom
        generalize hPI : pyIter = PI
        wp_walk
        subst hPI
        refine wpAny_pyIter_list hl1 (wpAny_bind (wpAny_runValue ?_))
        have hlS : l < s.heap.objs.size := Heap.lt_size hol
        have hh3 : A.in1.in1.in1.handled = none := by simp [hh]
        have hneI : l ≠ (s.heap.push { cls := .type "set", dict := none, data := .set #[] 0 (.fresh 0 0 led) }).objs.size := by
          rw [Heap.size_push]; exact Nat.ne_of_lt (Nat.lt_succ_of_lt hlS)
        have hSf : s.heap.objs.size ∉ [(s.heap.push { cls := .type "set", dict := none, data := .set #[] 0 (.fresh 0 0 led) }).objs.size, l] := by
          rw [Heap.size_push]; simp only [List.mem_cons, List.mem_singleton, List.not_mem_nil, or_false, not_or]
          exact ⟨Nat.ne_of_lt (Nat.lt_succ_self _), Nat.ne_of_gt hlS⟩
        refine set_loopK ((Walks.list hh3 _ l hneI items).toS) s.heap.objs.size hSf val hval hb (items.size - 0) 0 _ (by omega) (Nat.zero_le _) ⟨⟨_, Heap.get?_push_size _ rfl, rfl, rfl⟩, (hl1.push _)⟩ ?hS0 ?hR
        case hS0 =>
          have hget : ((s.heap.push { cls := .type "set", dict := none, data := .set #[] 0 (.fresh 0 0 led) }).push { cls := .type "list_iterator", data := .fields #[.ref l, .int 0 0] }).get? s.heap.objs.size
              = some { cls := .type "set", dict := none, data := .set #[] 0 (.fresh 0 0 led) } := Heap.get?_push_of_some _ hS
          exact setOf_eq (S := fun _ => false) (n := 0) ⟨_, #[], 0, _, hget, ⟨rfl, rfl, rfl⟩, rfl, (fun e he => by simp at he), (fun k => by simp), (by decide), (by rfl), rfl⟩ (fun _ => rfl) rfl
        case hR =>
          intro s' hm hS'
          obtain ⟨h', g', d', tk', os'⟩ := s'
          obtain rfl : g' = s.gens := hm.gens
          obtain rfl : d' = s.drawn := hm.drawn
          obtain rfl : os' = s.os := hm.os
          show wpAny _ _ _ _ _ _
          refine wpAny_pure ?_
          show wpAny _ _ (ret Value.none) _ _ _
          refine wpAny_pure ⟨rfl, h', tk', rfl, hS', fun b o hb e => ?_⟩
          have hb1 : b ≠ s.heap.objs.size := Nat.ne_of_lt hb
          have hb2 : b ≠ (s.heap.push { cls := .type "set", dict := none, data := .set #[] 0 (.fresh 0 0 led) }).objs.size := by
            rw [Heap.size_push]; exact Nat.ne_of_lt (Nat.lt_succ_of_lt hb)
          exact hm.heap b o (by simp only [List.mem_cons, List.mem_singleton, List.not_mem_nil, or_false, not_or]; exact ⟨hb1, hb2⟩) (Heap.get?_push_of_some _ (Heap.get?_push_of_some _ e))
      · cases r₂ with
        | error e => exact hr₂
        | ok fl₂ =>
          cases fl₂ with
          | ret r =>
            obtain ⟨rfl, h', tk, rfl, hS', hk'⟩ := hr₂
            repeat (any_goals (first | assumption | wp_step))
            exact h _ _ hS' hk'
          | _ => exact hr₂.elim
    | _ => exact hr.elim
end
/-- the keys that data are -/
def keyD : D → Option Key
  | .int i => some (.inl i) | .str x => some (.inr x) | _ => none
def keysD (ds : List D) : List Key := ds.filterMap keyD
theorem rep_key {K : PySem.W.Frag} {S : Hp} {d : D} {k : Key} {x : V} {u : Value} (h : keyD d = some k) (r : Rep K S d x) (q : RelV x u) : keyIs k u = true := by
  cases d with
  | int i => cases h; obtain rfl := r; obtain ⟨t, rfl⟩ := q; exact keyIs_int i t
  | str i => cases h; obtain rfl := r; obtain ⟨t, rfl⟩ := q; exact keyIs_str i t
  | non => cases h
  | bl _ => cases h
  | tup _ => cases h
  | lst _ => cases h
section
variable {X : Cx} {E : WK} {env : List Slot} {M : List MO} {PX : Value → Prop} {a : Expr} {p p2 q pos : Pos}
/-- len(set(xs)) -/
theorem q_lenSet {ds : List D} {ks : List Key} (hg : Gl X "len") (hm : X.mg "len" = none) (hg2 : Gl X "set") (hm2 : X.mg "set" = none) (hc : X.calm = true) (ha : EV X E env M a (· = .lst ds) PX) (hk : ds.map keyD = ks.map some) (hl : ds.length ≤ 4000) (na : starEach [a] X.env = (false, eval a X.env) :: starEach [] X.env := by rfl) :
    EV X E env M (.Call (.Name "len" p) [.Call (.Name "set" p2) [a] [] q] [] pos) (· = .int ((dedK ks).length : Nat)) PX := by
  have hT : PE X (.Call (.Name "len" p) [.Call (.Name "set" p2) [a] [] q] [] pos) (fun σ H Q => tP X.K E env M (· = .lst ds) PX σ H fun x H1 => ∃ S, Ex S H1 ∧ Rep X.K S (.lst ds) x ∧ Q (.int ((dedK ks).length : Nat)) H1) := by
    refine ⟨fun pins s σ H Q I h => ?_⟩
    refine Call_ (ld_blt I hg hm boot_len ?_)
    refine PyProof.Rows.callWith_builtin1 (PyProof.Rows.args_cons ?_ rfl) rfl rfl
    refine Call_ (ld_blt I hg2 hm2 boot_set ?_)
    refine PyProof.Rows.callWith_type1 (PyProof.Rows.args_cons (thn (ha.run pins s σ H _ I h) fun v s1 ⟨x, H1, I1, r1, q1⟩ => PyProof.Rows.args_nil ?_) na) na rfl
    obtain ⟨S, eS, ⟨l, xs, rfl, hq, rl⟩, q1⟩ := q1
    cases r1
    obtain ⟨its, r, pl, hz⟩ := I1.list (ex_l eS hq)
    have hl1 := rl.length
    have hl2 := r.length
    have hlk : ds.length = ks.length := by have := congrArg List.length hk; simpa using this
    have hsz : its.toArray.size = ks.length := by rw [List.size_toArray]; omega
    refine call_setK (val := fun i => ks.getD i (.inl 0)) (I1.ok.hd hc) pl.isList (fun i v hv => ?_) (by rw [hsz]; unfold scanBound; omega) fun h' tk hS hk2 => ?_
    · have hv' : its[i]? = some v := by simpa using hv
      have hi : i < its.length := (List.getElem?_eq_some_iff.mp hv').1
      obtain ⟨d, hd⟩ : ∃ d, ds[i]? = some d := ⟨ds[i]'(by omega), by simp⟩
      obtain ⟨x, hx, rx⟩ := rl.get hd
      obtain ⟨u, hu, ru⟩ := r.get hx
      rw [hv'] at hu; cases hu
      have e : (ds.map keyD)[i]? = (ks.map some)[i]? := by rw [hk]
      rw [List.getElem?_map, List.getElem?_map, hd, List.getElem?_eq_getElem (show i < ks.length by omega)] at e
      have e' : keyD d = some ks[i] := Option.some.inj e
      show keyIs (ks.getD i (.inl 0)) v = true
      rw [List.getD_eq_getElem?_getD, List.getElem?_eq_getElem (show i < ks.length by omega)]
      exact rep_key e' rx ru
    · refine PyProof.Rows.args_nil ?_
      have efk : firstK (fun i => ks.getD i (.inl 0)) its.toArray.size = dedK ks := by
        unfold firstK
        rw [hsz]
        congr 1
        refine List.ext_getElem? fun i => ?_
        rw [List.getElem?_map]
        by_cases hi : i < ks.length
        · rw [List.getElem?_range hi]; simp [hi]
        · rw [List.getElem?_eq_none (by simp; omega), List.getElem?_eq_none (by omega)]; rfl
      rw [efk] at hS
      obtain ⟨o, es, ep, t, ho, hex, hd, _, _, _, hf, hn⟩ := hS
      have I2 : Inv X pins σ H1 { s1 with heap := h', toks := tk } := I1.kept fun b o e => hk2 b o (Heap.lt_size e) e
      have hdl : (dedK ks).length ≤ 4000 := by rw [← efk]; exact Nat.le_trans (firstK_le _ _) (by rw [hsz]; omega)
      exact call_len_set ho hex hd hf (by rw [hn]; omega) ⟨.int (dedK ks).length, H1, I2.tok _, ⟨_, by rw [hn]⟩, q1⟩
  refine PE.imp hT fun σ H Q ⟨S, as, ok, en, k, x⟩ => ⟨S, as, ok, en, fun d v S2 H2 pd p2 ok2 r => ?_, x⟩
  subst pd
  exact ⟨S2, ok2.ex, r, k _ _ S2 H2 rfl p2 ok2 rfl⟩
end
end DL

set_option Elab.async false
set_option linter.all false
set_option maxRecDepth 100000
set_option maxHeartbeats 4000000
namespace DL
open PySem PySem.Spec PyProof.Rows L2 Evl
/-! lists of one's own: read, changed, gone through -/
section
variable {K : PySem.W.Frag} {S H : Hp} {as : List Addr} {M : List MO}
theorem Ok.list (ok : Ok K S as M H) {k : Nat} {a : Addr} {ds : List D} (ha : as[k]? = some a) (hm : M[k]? = some (.ml ds)) : ∃ xs, S a = none ∧ H a = some (.lst xs) ∧ RepL K S ds xs := by
  obtain ⟨b, hb, hS, vs, hv, r⟩ := ok.own.get hm
  obtain rfl : b = a := Option.some.inj (hb.symm.trans ha)
  exact ⟨vs, hS, hv, r⟩
/-- the owned object at k is now m -/
theorem Ok.mut (ok : Ok K S as M H) {k : Nat} {a : Addr} {m : MO} {o : HO} (ha : as[k]? = some a) (hS : S a = none) (hm : HasO K S (upd H a o) a m) : Ok K S as (M.set k m) (upd H a o) ∧ Post as S H S (upd H a o) := by
  have hmem : a ∈ as := List.mem_of_getElem? ha
  refine ⟨⟨fun b u h => ?_, ok.nd, OwnL.upd (Ex.refl S) ok.nd ok.own ha hm (fun b _ hb u h => by rw [upd_ne hb]; exact h) fun _ _ z1 z2 => absurd z2 z1⟩, Ex.refl S, fun b u h hn => ?_, fun b h => ?_, fun _ z1 z2 => absurd z2 z1⟩
  · have : b ≠ a := by rintro rfl; rw [hS] at h; cases h
    rw [upd_ne this]; exact ok.ex b u h
  · have : b ≠ a := by rintro rfl; exact hn hmem
    rw [upd_ne this]; exact h
  · by_cases e : b = a
    · subst e; rw [upd_same]; exact fun z => nomatch z
    · rw [upd_ne e]; exact h
theorem Ok.mutL (ok : Ok K S as M H) {k : Nat} {a : Addr} {ds : List D} {xs : List V} (ha : as[k]? = some a) (hS : S a = none) (r : RepL K S ds xs) : Ok K S as (M.set k (.ml ds)) (upd H a (.lst xs)) ∧ Post as S H S (upd H a (.lst xs)) :=
  ok.mut ha hS ⟨hS, xs, upd_same, r⟩
/-- what stands at a slot -/
def cont (M : List MO) : Slot → Option D
  | .dat d => some d
  | .ptr k => (match M[k]? with | some (.ml ds) => some (.lst ds) | _ => none)
  | .un => none
theorem cont_ptr {k : Nat} {d : D} (h : cont M (.ptr k) = some d) : ∃ ds, M[k]? = some (.ml ds) ∧ d = .lst ds := by
  have h : (match M[k]? with | some (.ml ds) => some (D.lst ds) | _ => none) = some d := h
  cases e : M[k]? with
  | none => rw [e] at h; cases h
  | some m =>
    rw [e] at h
    cases m with
    | ml ds => exact ⟨ds, rfl, (Option.some.inj h).symm⟩
    | gone => cases h
    | well => cases h
    | md _ => cases h
    | lk _ => cases h
theorem SlotR.rep {s : Slot} {v : V} {d : D} (r : SlotR K S as s (some v)) (ok : Ok K S as M H) (h : cont M s = some d) : Rep K H d v := by
  cases s with
  | dat e => cases h; obtain ⟨u, e1, r⟩ := r; cases e1; exact r.mono ok.ex
  | un => cases h
  | ptr k =>
    obtain ⟨ds, hm, rfl⟩ := cont_ptr h
    obtain ⟨a, ha, e1⟩ := r
    cases e1
    obtain ⟨xs, hS, hv, rl⟩ := ok.list ha hm
    exact ⟨a, xs, rfl, sq_of hv, rl.mono ok.ex⟩
end
/-- an expression whose value stands at a slot -/
def tX (K : PySem.W.Frag) (E : WK) (env : List Slot) (M : List MO) (s : Slot) (PX : Value → Prop) : TE := fun σ H Q =>
  ∃ S as, Ok K S as M H ∧ EnvR K S as env σ ∧ (∀ v S2 H2, Post as S H S2 H2 → Ok K S2 as M H2 → SlotR K S2 as s (some v) → Q v H2) ∧ (∀ c S2 H2, PX c → Post as S H S2 H2 → Ok K S2 as M H2 → E σ c none H2)
abbrev XV (X : Cx) (E : WK) (env : List Slot) (M : List MO) (e : Expr) (s : Slot) (PX : Value → Prop) : Prop := PE X e (tX X.K E env M s PX)
section
variable {X : Cx} {E : WK} {env : List Slot} {M : List MO} {PX : Value → Prop} {a b c e : Expr} {es : List Expr} {rest : List Stmt} {pos p p2 pos' apos : Pos} {d da db : D} {b1 : Bool} {sa sb : Slot} {P : Out → Prop} {x : Str} {i j k : Nat}
theorem x_dat (h : EV X E env M e (· = d) PX) : XV X E env M e (.dat d) PX := PE.imp h fun σ H Q ⟨S, as, ok, en, kk, x⟩ => ⟨S, as, ok, en, fun d' v S2 H2 q p2 ok2 r => kk v S2 H2 p2 ok2 ⟨v, rfl, q ▸ r⟩, x⟩
theorem x_ptr (h : PE X e (tVar i)) (he : env[i]? = some (.ptr k)) : XV X E env M e (.ptr k) PX := PE.imp h fun σ H Q ⟨S, as, ok, en, kk, x⟩ => by
  obtain ⟨o, ho, s⟩ := en.get he
  obtain ⟨q, hq, rfl⟩ := s
  exact ⟨_, ho, kk _ S H Post.refl ok ⟨q, hq, rfl⟩⟩
theorem xbin_read {r : R2} {ta tb : TE} {σ : L2.St} {H : Hp} {Q : VK} {K : PySem.W.Frag} (ha : ∀ Q, tX K E env M sa PX σ H Q → ta σ H Q) (hb : ∀ H Q, tX K E env M sb PX σ H Q → tb σ H Q) (ca : cont M sa = some da) (cb : cont M sb = some db)
    (h : Bin K r da db (· = .bl b1)) (q : tP K E env M (· = .bl b1) PX σ H Q) : tOp r ta tb σ H Q := by
  obtain ⟨S, as, ok, en, kk, x⟩ := q
  refine ha _ ⟨S, as, ok, en, fun v S1 H1 p1 ok1 r1 => ?_, x⟩
  refine hb H1 _ ⟨S1, as, ok1, en.ex p1.ex, fun u S2 H2 p2 ok2 r2 => ?_, fun c S2 H2 pc p2 => x c S2 H2 pc (p1.trans p2)⟩
  have r1' : SlotR K S2 as sa (some v) := r1.mono p2.ex fun _ _ z => z
  refine h H2 H2 v u Q (Ex.refl _) (r1'.rep ok2 ca) (r2.rep ok2 cb) fun d w S3 H3 pd e1 e2 e3 nw rw' => ?_
  subst pd
  obtain rfl : w = .bl b1 := rw'
  exact kk _ _ S2 H3 rfl ((p1.trans p2).trans (Post.grew (Ex.refl _) e3 fun _ z1 z2 => absurd z2 z1)) (ok2.grew (Ex.refl _) (ok2.ex.trans e3) e3 fun _ z1 z2 => absurd z2 z1) rfl
theorem tx_cmp {op : CmpOp} {r : R2} (ho : OpR X (compareOp op) r) (ha : XV X E env M a sa PX) (hb : XV X E env M b sb PX) (ca : cont M sa = some da) (cb : cont M sb = some db) (hm : behindInMarks op b = false) (h : Bin X.K r da db (· = .bl b1)) : BV X E env M (.Compare a [op] [b] pos) (· = b1) PX :=
  PT.imp (pt_cmpR ho ha hb hm) fun σ H Q q => test_read (P := (· = b1)) (fun Q z => xbin_read (fun _ z => z) (fun _ _ z => z) ca cb h (by
    obtain ⟨S, as, ok, en, kk, x⟩ := z
    exact ⟨S, as, ok, en, fun d v S2 H2 e => kk d v S2 H2 ⟨b1, e, rfl⟩, x⟩)) q
theorem qx_cmp {op : CmpOp} {r : R2} (ho : OpR X (compareOp op) r) (ha : XV X E env M a sa PX) (hb : XV X E env M b sb PX) (ca : cont M sa = some da) (cb : cont M sb = some db) (hm : behindInMarks op b = false) (h : Bin X.K r da db (· = .bl b1)) : EV X E env M (.Compare a [op] [b] pos) (· = .bl b1) PX :=
  PE.imp (pe_cmpR ho ha hb hm) fun σ H Q q => xbin_read (fun _ z => z) (fun _ _ z => z) ca cb h q
theorem qx_len (hg : Gl X "len") (hm : X.mg "len" = none) (ha : XV X E env M a sa PX) (ca : cont M sa = some d) (hz : sized d = true) (he : starEach [a] X.env = (false, eval a X.env) :: starEach [] X.env := by rfl) (hpl : (backTo pos (starEach [] X.env)).any (·.1) = false := by rfl) : EV X E env M (.Call (.Name "len" p) [a] [] pos) (· = .int (lenD d)) PX :=
  PE.imp (pe_callB call_len hg hm PySem.boot_len (pa_cons ha pa_nil he) (by decide) (by decide) he hpl) fun σ H Q ⟨S, as, ok, en, kk, x⟩ => ⟨S, as, ok, en, fun v S2 H2 p2 ok2 r => by
    refine fnc_len (P := (· = .int (lenD d))) hz rfl H2 H2 [v] Q (Ex.refl _) (RepL.one (r.rep ok2 ca)) fun d' w S3 H3 pd e1 e2 e3 nw rw' => ?_
    subst pd
    obtain rfl : w = _ := rw'
    exact kk _ _ S2 H3 rfl (p2.trans (Post.grew (Ex.refl _) e3 fun _ z1 z2 => absurd z2 z1)) (ok2.grew (Ex.refl _) (ok2.ex.trans e3) e3 fun _ z1 z2 => absurd z2 z1) rfl, x⟩
theorem qx_isi {T : String} {isT : D → Bool} (hg : Gl X "isinstance") (hm : X.mg "isinstance" = none) (hg2 : Gl X x) (hm2 : X.mg x = none) (hv2 : bootBuiltins x = some (.type T)) (hk : ∀ d, kitB d.ty T = some (isT d)) (ha : XV X E env M a sa PX) (ca : cont M sa = some d)
    (hn : x ≠ "__name__" := by decide) (hd : (x == ("__debug__" : Str)) = false := by decide)
    (h1 : starEach [a, .Name x p2] X.env = (false, eval a X.env) :: starEach [.Name x p2] X.env := by rfl) (h2 : starEach [.Name x p2] X.env = (false, eval (.Name x p2) X.env) :: starEach [] X.env := by rfl) (hpl : (backTo pos (starEach [.Name x p2] X.env)).any (·.1) = false := by rfl) :
    EV X E env M (.Call (.Name "isinstance" p) [a, .Name x p2] [] pos) (· = .bl (isT d)) PX :=
  PE.imp (pe_callB call_isi hg hm boot_isinstance (pa_cons ha (pa_cons (pe_bltn hg2 hm2 hv2 (v := .ty T) rfl hn hd) pa_nil h2) h1) (by decide) (by decide) h1 hpl) fun σ H Q ⟨S, as, ok, en, kk, y⟩ => ⟨S, as, ok, en, fun v S1 H1 p1 ok1 r1 =>
    ⟨v, .ty T, _, _, isT d, rfl, .ty T, (r1.rep ok1 ca).tyX (Ex.refl _), kit_ty (hk d), kk _ _ S1 H1 rfl p1 ok1 rfl⟩, y⟩
/-- xs[i] of a list of one's own -/
theorem q_ixP {ds : List D} {n : Int} (ha : XV X E env M a (.ptr k) PX) (hb : EV X E env M b (· = .int n) PX) (hm : M[k]? = some (.ml ds)) (h : atI ds n = some d) (hs : PlainIx b := by exact fun _ _ => rfl) : EV X E env M (.Subscript a b pos) (· = d) PX :=
  PE.imp (pe_ix ix_list ha hb hs) fun σ H Q ⟨S, as, ok, en, kk, x⟩ => ⟨S, as, ok, en, fun v S1 H1 p1 ok1 r1 => by
    refine ⟨S1, as, ok1, en.ex p1.ex, fun d2 u S2 H2 e2 p2 ok2 r2 => ?_, fun c S2 H2 pc p2 => x c S2 H2 pc (p1.trans p2)⟩
    subst e2
    obtain rfl : u = .int n := r2
    obtain ⟨q, hq, e1⟩ := r1
    cases e1
    obtain ⟨xs, hS, hv, rl⟩ := ok2.list hq hm
    obtain ⟨j, h1, h2, h3, h4, h5⟩ := atI_get h
    have hl := rl.length
    obtain ⟨y, hy, ry⟩ := rl.get h2
    refine ⟨q, xs, n, y, rfl, rfl, sq_of hv, ?_, kk _ _ S2 H2 rfl (p1.trans p2) ok2 ry⟩
    unfold atI at h ⊢
    rw [hl]
    cases z : ixN ds.length n with
    | none => rw [z] at h; cases h
    | some m =>
      obtain ⟨q1, _⟩ := ixN_seq z
      rw [h1] at q1
      cases q1
      exact hy, x⟩
/-- tuple(xs) -/
theorem q_tupleP {ds : List D} (hg : Gl X "tuple") (hm : X.mg "tuple" = none) (ha : XV X E env M a (.ptr k) PX) (hk : M[k]? = some (.ml ds)) (he : starEach [a] X.env = (false, eval a X.env) :: starEach [] X.env := by rfl) (hpl : (backTo pos (starEach [] X.env)).any (·.1) = false := by rfl) : EV X E env M (.Call (.Name "tuple" p) [a] [] pos) (· = .tup ds) PX :=
  PE.imp (pe_callTy call_tuple_of hg hm (by decide +kernel) (pa_cons ha pa_nil he) (by decide) (by decide) he hpl) fun σ H Q ⟨S, as, ok, en, kk, x⟩ => ⟨S, as, ok, en, fun v S2 H2 p2 ok2 r => by
    obtain ⟨q, hq, e1⟩ := r
    cases e1
    obtain ⟨xs, hS, hv, rl⟩ := ok2.list hq hk
    exact ⟨q, xs, rfl, .inl ⟨sq_of hv, fun l hl => (tP.gives (P := (· = .tup ds)) ok2 p2 kk).tup ok2.ex hl rfl rl⟩⟩, x⟩
/-- list(t): a new list of one's own -/
theorem n_listOf {ds : List D} (hg : Gl X "list") (hm : X.mg "list" = none) (ha : EV X E env M a (fun d => d = .tup ds ∨ d = .lst ds) PX) (he : starEach [a] X.env = (false, eval a X.env) :: starEach [] X.env := by rfl) (hpl : (backTo pos (starEach [] X.env)).any (·.1) = false := by rfl) : NV X E env M (.Call (.Name "list" p) [a] [] pos) (· = .ml ds) PX :=
  PE.imp (pe_callTy call_list_of hg hm (by decide +kernel) (pa_cons ha pa_nil he) (by decide) (by decide) he hpl) fun σ H Q ⟨S, as, ok, en, kk, x⟩ => ⟨S, as, ok, en, fun d v S2 H2 pd p2 ok2 r => by
    have fin : ∀ (a : Addr) (xs : List V), RepL X.K S2 ds xs → ∀ l, H2 l = none → Q (.ref l) (upd H2 l (.lst xs)) := fun a xs rl l hl => by
      have hs : S2 l = none := by
        cases e : S2 l with
        | none => rfl
        | some o => rw [ok2.ex l o e] at hl; cases hl
      have hl0 : H l = none := by
        cases e : H l with
        | none => rfl
        | some o => exact absurd hl (p2.dom l (by rw [e]; exact fun z => nomatch z))
      exact kk (.ml ds) l S2 _ rfl (p2.trans (Post.grew (Ex.refl _) (Ex.new hl) fun _ z1 z2 => absurd z2 z1)) hl0 (ok2.more hl (Ex.new hl) ⟨hs, xs, upd_same, rl⟩)
    rcases pd with rfl | rfl
    · obtain ⟨q, xs, rfl, hq, rl⟩ := r
      exact ⟨q, xs, rfl, .inr (ex_t ok2.ex hq), fin q xs rl⟩
    · obtain ⟨q, xs, rfl, hq, rl⟩ := r
      exact ⟨q, xs, rfl, .inl (ex_l ok2.ex hq), fin q xs rl⟩, x⟩

/-! ### statements -/
/-- y = x, x a pointer -/
theorem ss_copyP (hN : X.N.Nodup) (hi : X.N[i]? = some x) (hl : Loc X.env.scope x) (h : PE X e (tVar j)) (he : env[j]? = some (.ptr k)) (hr : BS X E (env.set i (.ptr k)) M rest P)
    (hs : swapsWith e (some (.Name x pos')) pos.line X.env = pure false := by rfl) (hf : X.fn x = true ∨ X.env.scope.names.lookup x = some .local := by first | exact .inl rfl | exact .inr rfl | assumption) : BS X E env M (.Assign [.Name x pos'] e pos :: rest) P :=
  ss_cons (P1 := (· = .nx (env.set i (.ptr k)) M)) (PS.imp (ps_set hN hi hl h hs hf) fun Dn σ H ⟨S, as, ok, en, kk⟩ => by
    obtain ⟨o, ho, s⟩ := en.get he
    obtain ⟨q, hq, rfl⟩ := s
    exact ⟨_, ho, (kk _ rfl).go Post.refl ok (EnvR.set (s := .ptr k) (o := some (.ref q)) ⟨q, hq, rfl⟩ i en)⟩) (fun e1 m1 q => by cases q; exact hr) fun o q hn => by subst q; cases hn
/-- a statement that changes one's own list: r at the list -/
def LMut (K : PySem.W.Frag) (r : V → List V → Hp → VK → Prop) (ds es ds' : List D) : Prop := ∀ (S H : Hp) (l : Addr) (xs vs : List V) (Q : VK), Ex S H → H l = some (.lst xs) → RepL K S ds xs → RepL K S es vs → (∀ v xs', RepL K S ds' xs' → Q v (upd H l (.lst xs'))) → r (.ref l) vs H Q
theorem ss_meth {m : Str} {id : String} {r : V → List V → Hp → VK → Prop} {ds ds' : List D} {Pa : List D → Prop} {cpos : Pos} {o : Expr} (slot : PySem.Slot "list" m id) (hty : typeOf (.builtin id) = pure (.type "method_descriptor")) (hmt : MtR X id r)
    (h : PE X o (tVar i)) (hei : env[i]? = some (.ptr k)) (hm : M[k]? = some (.ml ds)) (ha : DV X E env M (a :: es) Pa PX) (hr : ∀ ys, Pa ys → ∃ ds', LMut X.K r ds ys ds' ∧ BS X E env (M.set k (.ml ds')) rest P) (hx : ∀ c, PX c → P (.xx c env M))
    (hbase : attributeBase o m X.env (eval o X.env) = eval o X.env := by rfl)
    (hfew : ((backTo cpos (starEach (a :: es) X.env)).all (fun x => !x.1) && (backToKw cpos (keywordEach [] X.env)).all (fun x => x.1.isSome) && decide ((a :: es).length + ([] : List Keyword).length + (if ([] : List Keyword).isEmpty then 0 else 1) < 30)) = true := by rfl)
    (hline : (apos.endLine == cpos.line) = true := by rfl) (hs1 : starEach (a :: es) X.env = (false, eval a X.env) :: starEach es X.env := by rfl) (hplain : (backTo cpos (starEach es X.env)).any (·.1) = false := by rfl)
    (hs : swapsWith (.Call (.Attribute o m apos) (a :: es) [] cpos) none pos.line X.env = pure false := by rfl) : BS X E env M (.Expr (.Call (.Attribute o m apos) (a :: es) [] cpos) pos :: rest) P := by
  refine ss_cons (P1 := fun o => (∃ ys ds', Pa ys ∧ LMut X.K r ds ys ds' ∧ BS X E env (M.set k (.ml ds')) rest P ∧ o = .nx env (M.set k (.ml ds'))) ∨ ∃ c, PX c ∧ o = .xx c env M) (PS.imp (ps_expr (pe_bm PySem.F.plainAttrs_list slot hty hmt h ha hbase hfew hline hs1 hplain) hs) fun Dn σ H ⟨S, as, ok, en, kk⟩ => ?_) ?_ ?_
  · obtain ⟨o1, ho, s⟩ := en.get hei
    obtain ⟨q, hq, rfl⟩ := s
    obtain ⟨xs0, _, hv0, _⟩ := ok.list hq hm
    refine ⟨_, ho, .inl ⟨rfl, xs0, sq_of hv0⟩, S, as, ok, en, fun sl vs S2 H2 ps p2 ok2 ra => ?_, fun c S2 H2 p p2 ok2 => (kk _ (.inr ⟨c, p, rfl⟩)).exc p2 ok2 (en.ex p2.ex)⟩
    obtain ⟨ys, rfl, py⟩ := ps
    obtain ⟨ds2, lm, hb⟩ := hr ys py
    obtain ⟨xs, hS, hv, rl⟩ := ok2.list hq hm
    refine lm S2 H2 q xs vs _ ok2.ex hv rl ra.dats fun v xs' rl' => ?_
    obtain ⟨ok3, p3⟩ := ok2.mutL hq hS rl'
    exact (kk _ (.inl ⟨ys, ds2, py, lm, hb, rfl⟩)).go (p2.trans p3) ok3 ((en.ex p2.ex).ex p3.ex)
  · rintro env1 M1 (⟨ys, ds2, py, lm, hb, e1⟩ | ⟨c, _, e1⟩)
    · cases e1; exact hb
    · cases e1
  · rintro o (⟨ys, ds2, py, lm, hb, rfl⟩ | ⟨c, p, rfl⟩) hn
    · cases hn
    · exact hx c p
theorem lm_append {K : PySem.W.Frag} {ds : List D} {d : D} (hl : ds.length < 100000) : LMut K rAppend ds [d] (ds ++ [d]) := fun S H l xs vs Q e hl0 rl ra k => by
  obtain ⟨v, t, rfl, r1, rfl⟩ := ra
  exact ⟨l, xs, v, rfl, rfl, hl0, sz_lt (by rw [rl.length]; exact hl), k _ _ (rl.append (RepL.one r1))⟩
theorem lm_popAt {K : PySem.W.Frag} {ds : List D} {n : Nat} (hn : n < ds.length) (hl : ds.length < 100000) : LMut K rPopAt ds [.int n] (ds.eraseIdx n) := fun S H l xs vs Q e hl0 rl ra k => by
  obtain ⟨v, t, rfl, r1, rfl⟩ := ra
  obtain rfl : v = .int n := r1
  have hxl := rl.length
  have hh : ixN xs.length (n : Int) = some n := ixN_nat (by omega)
  refine ⟨l, xs, n, n, xs[n]'(by omega), rfl, rfl, hl0, by omega, by omega, (ixN_seq hh).1, by simp, k _ _ ?_⟩
  have er : ∀ {ds : List D} {xs : List V} (n : Nat), RepL K S ds xs → RepL K S (ds.eraseIdx n) (xs.eraseIdx n) := by
    intro ds
    induction ds with
    | nil => intro xs n h; rw [show xs = [] from h]; exact RepL.nil
    | cons d r ih =>
      intro xs n h
      obtain ⟨x, t, rfl, h1, h2⟩ := h
      cases n with
      | zero => exact h2
      | succ n => exact RepL.cons h1 (ih n h2)
  exact er n rl
theorem lm_insert {K : PySem.W.Frag} {ds : List D} {n : Nat} {d : D} (hn : n ≤ ds.length) (hl : ds.length < 100000) : LMut K (fun x vs H Q => ∃ (l : Addr) (xs : List V) (i : Int) (y : V), x = .ref l ∧ vs = [.int i, y] ∧ H l = some (.lst xs) ∧ xs.length < sizeLine ∧ 0 ≤ i ∧ i < 2 ^ 63 ∧
    Q .non (upd H l (.lst (xs.take i.toNat ++ [y] ++ xs.drop i.toNat)))) ds [.int n, d] (ds.take n ++ [d] ++ ds.drop n) := fun S H l xs vs Q e hl0 rl ra k => by
  obtain ⟨v, t, rfl, r1, u, t2, rfl, r2, rfl⟩ := ra
  obtain rfl : v = .int n := r1
  have hxl := rl.length
  refine ⟨l, xs, n, u, rfl, rfl, hl0, sz_lt (by omega), by omega, by omega, ?_⟩
  rw [Int.toNat_natCast]
  exact k _ _ (((rl.take n).append (RepL.one r2)).append (rl.drop n))
/-- xs[i] = e -/
theorem ss_setP {ds : List D} {n : Nat} {Pd : D → Prop} {o ix : Expr} {tpos : Pos} (h : PE X o (tVar i)) (hei : env[i]? = some (.ptr k)) (hm : M[k]? = some (.ml ds)) (hix : EV X E env M ix (· = .int n) PX) (hn : n < ds.length) (hv : EV X E env M e Pd PX) (hr : ∀ d, Pd d → BS X E env (M.set k (.ml (ds.set n d))) rest P) (hx : ∀ c, PX c → P (.xx c env M))
    (ha : ∀ v, assign (.Subscript o ix tpos) X.env v = (do
      let ov ← holding [v] (eval o X.env)
      let iv ← holding [v, ov] (eval ix X.env)
      standAt tpos
      holding [v, ov, iv] (setItem ov iv v)
      release [v, ov, iv] []) := by intro _; rfl) (hs : swapsWithSole [.Subscript o ix tpos] e pos.line X.env = pure false := by rfl) (hw : swappedStores [.Subscript o ix tpos] e X.env = pure none := by rfl)
    (h1 : (assignEach [.Subscript o ix tpos] X.env).map (·.2) = [assign (.Subscript o ix tpos) X.env] := by rfl) : BS X E env M (.Assign [.Subscript o ix tpos] e pos :: rest) P := by
  refine ss_cons (P1 := fun o => (∃ d, Pd d ∧ o = .nx env (M.set k (.ml (ds.set n d)))) ∨ ∃ c, PX c ∧ o = .xx c env M) (PS.imp (ps_asg hv (pg_sub h hix set_list ha) hs hw h1) fun Dn σ H ⟨S, as, ok, en, kk⟩ => ⟨S, as, ok, en, fun d v S2 H2 pd p2 ok2 r => ?_, fun c S2 H2 p p2 ok2 => (kk _ (.inr ⟨c, p, rfl⟩)).exc p2 ok2 (en.ex p2.ex)⟩) ?_ ?_
  · obtain ⟨o1, ho, s⟩ := en.get hei
    obtain ⟨q, hq, rfl⟩ := s
    refine ⟨_, ho, S2, as, ok2, en.ex p2.ex, fun d2 u S3 H3 e3 p3 ok3 r3 => ?_, fun c S3 H3 p p3 ok3 => (kk _ (.inr ⟨c, p, rfl⟩)).exc (p2.trans p3) ok3 (en.ex (p2.trans p3).ex)⟩
    subst e3
    obtain rfl : u = .int n := r3
    obtain ⟨xs, hS, hv2, rl⟩ := ok3.list hq hm
    obtain ⟨ok4, p4⟩ := ok3.mutL hq hS (RepL.set (r.mono p3.ex) n rl)
    exact ⟨q, xs, n, n, rfl, rfl, hv2, ixN_nat (by rw [rl.length]; exact hn), (kk _ (.inl ⟨d, pd, rfl⟩)).go ((p2.trans p3).trans p4) ok4 (en.ex ((p2.trans p3).trans p4).ex)⟩
  · rintro env1 M1 (⟨d, p, e1⟩ | ⟨c, _, e1⟩)
    · cases e1; exact hr d p
    · cases e1
  · rintro o (⟨d, p, rfl⟩ | ⟨c, p, rfl⟩) hn'
    · cases hn'
    · exact hx c p
end
end DL

set_option Elab.async false
set_option linter.all false
set_option maxRecDepth 100000
set_option maxHeartbeats 4000000
namespace DL
open PySem PySem.Spec PyProof.Rows L2 Evl
section
variable {X : Cx} {E : WK} {env : List Slot} {M : List MO} {PX : Value → Prop} {a b c e : Expr} {es : List Expr} {rest body : List Stmt} {pos p p2 pos' apos cpos : Pos} {d da db : D} {P : Out → Prop} {x : Str} {i j k : Nat} {ds : List D}
theorem DV.co {l : List D} (ha : EV X E env M a (· = da) PX) (hr : DV X E env M es (· = l) PX) (hs : starEach (a :: es) X.env = (false, eval a X.env) :: starEach es X.env := by rfl) : DV X E env M (a :: es) (· = da :: l) PX :=
  AV.mono (d_cons ha hr hs) fun sl ⟨ds, e, x, r, e2, e3, e4⟩ => ⟨da :: l, by rw [e, e2, e3, e4], rfl⟩
theorem NV.mono {P P' : MO → Prop} (h : NV X E env M e P PX) (w : ∀ m, P m → P' m) : NV X E env M e P' PX :=
  PE.imp h fun σ H Q ⟨S, as, ok, en, k, x⟩ => ⟨S, as, ok, en, fun m p S2 H2 q => k m p S2 H2 (w m q), x⟩
theorem NV.frzL (h : NV X E env M e (· = .ml ds) PX) : EV X E env M e (· = .lst ds) PX := (NV.frz (P := (· = ds)) (h.mono fun m q => ⟨ds, q, rfl⟩)).mono fun d ⟨l, e, q⟩ => by rw [e, q]
theorem n_lstD (h : DV X E env M es (· = ds) PX) (hl : ds.length ≤ 100000) : NV X E env M (.List es pos) (· = .ml ds) PX := n_lst h fun l e => by rw [e]; exact ⟨hl, rfl⟩
theorem q_lstD (h : DV X E env M es (· = ds) PX) (hl : ds.length ≤ 100000) : EV X E env M (.List es pos) (· = .lst ds) PX := e_lst h fun l e => by rw [e]; exact ⟨hl, rfl⟩
/-- without the last owned one -/
theorem Ok.init {K : PySem.W.Frag} {S H : Hp} {as : List Addr} {M : List MO} {p : Addr} {m : MO} (ok : Ok K S (as ++ [p]) (M ++ [m]) H) (hl : as.length = M.length) : Ok K S as M H ∧ HasO K S H p m := by
  have go : ∀ {as : List Addr} {M : List MO}, as.length = M.length → OwnL K S H (as ++ [p]) (M ++ [m]) → OwnL K S H as M ∧ HasO K S H p m := by
    intro as
    induction as with
    | nil =>
      intro M hl h
      cases M with
      | nil => exact ⟨trivial, h.1⟩
      | cons _ _ => cases hl
    | cons a r ih =>
      intro M hl h
      cases M with
      | nil => cases hl
      | cons m0 ms =>
        obtain ⟨h1, h2⟩ := ih (by simpa using hl) h.2
        exact ⟨⟨h.1, h1⟩, h2⟩
  obtain ⟨h1, h2⟩ := go hl ok.own
  exact ⟨⟨ok.ex, (List.nodup_append.mp ok.nd).1, h1⟩, h2⟩
/-- xs + ys: a new list -/
theorem n_catP {Pe : List D → Prop} {P : MO → Prop} (ha : XV X E env M a (.ptr k) PX) (hm : M[k]? = some (.ml ds)) (hb : NV X E env M b (fun m => ∃ l, m = .ml l ∧ Pe l) PX) (hP : ∀ l, Pe l → ds.length + l.length ≤ 100000 ∧ P (.ml (ds ++ l))) : NV X E env M (.BinOp a .Add b pos) P PX :=
  PE.imp (pe_op op_cat ha hb) fun σ H Q ⟨S, as, ok, en, kk, x⟩ => ⟨S, as, ok, en, fun v S1 H1 p1 ok1 r1 => ⟨S1, as, ok1, en.ex p1.ex, fun m p S2 H2 pm p2 hp ok2 => by
    obtain ⟨l, rfl, pl⟩ := pm
    obtain ⟨ok3, hS, ys, hy, ry⟩ := ok2.init ok1.own.length
    obtain ⟨q, hq, e1⟩ := r1
    cases e1
    obtain ⟨xs, hS2, hv, rl⟩ := ok3.list hq hm
    refine ⟨q, p, xs, ys, rfl, rfl, hv, hy, sz_of (by rw [rl.length, ry.length]; exact (hP l pl).1), fun z hz => ?_⟩
    have hsz : S2 z = none := by
      cases e : S2 z with
      | none => rfl
      | some o => rw [ok3.ex z o e] at hz; cases hz
    have pz := p1.trans p2
    have hz0 : H z = none := by
      cases e : H z with
      | none => rfl
      | some o => exact absurd hz (pz.dom z (by rw [e]; exact fun z => nomatch z))
    exact kk (.ml (ds ++ l)) z S2 _ (hP l pl).2 (pz.trans (Post.grew (Ex.refl _) (Ex.new hz) fun _ z1 z2 => absurd z2 z1)) hz0 (ok3.more hz (Ex.new hz) ⟨hsz, _, upd_same, rl.append ry⟩), fun c S2 H2 pc p2 => x c S2 H2 pc (p1.trans p2)⟩, x⟩
/-- xs.extend(ys), ys a new list -/
theorem ss_extend {Pe : List D → Prop} {o : Expr} (h : PE X o (tVar i)) (hei : env[i]? = some (.ptr k)) (hm : M[k]? = some (.ml ds)) (ha : NV X E env M a (fun m => ∃ l, m = .ml l ∧ Pe l) PX) (hr : ∀ l, Pe l → ds.length + l.length ≤ 100000 ∧ BS X E env (M.set k (.ml (ds ++ l))) rest P) (hx : ∀ c, PX c → P (.xx c env M))
    (hbase : attributeBase o "extend" X.env (eval o X.env) = eval o X.env := by rfl)
    (hfew : ((backTo cpos (starEach [a] X.env)).all (fun x => !x.1) && (backToKw cpos (keywordEach [] X.env)).all (fun x => x.1.isSome) && decide (([a] : List Expr).length + ([] : List Keyword).length + (if ([] : List Keyword).isEmpty then 0 else 1) < 30)) = true := by rfl)
    (hline : (apos.endLine == cpos.line) = true := by rfl) (hs1 : starEach [a] X.env = (false, eval a X.env) :: starEach [] X.env := by rfl) (hplain : (backTo cpos (starEach [] X.env)).any (·.1) = false := by rfl)
    (hs : swapsWith (.Call (.Attribute o "extend" apos) [a] [] cpos) none pos.line X.env = pure false := by rfl) : BS X E env M (.Expr (.Call (.Attribute o "extend" apos) [a] [] cpos) pos :: rest) P := by
  refine ss_cons (P1 := fun o => (∃ l, Pe l ∧ o = .nx env (M.set k (.ml (ds ++ l)))) ∨ ∃ c, PX c ∧ o = .xx c env M) (PS.imp (ps_expr (pe_bm PySem.F.plainAttrs_list PySem.F.slot_list_extend PySem.F.type_list_extend mt_extend h (pa_cons ha pa_nil hs1) hbase hfew hline hs1 hplain) hs) fun Dn σ H ⟨S, as, ok, en, kk⟩ => ?_) ?_ ?_
  · obtain ⟨o1, ho, s⟩ := en.get hei
    obtain ⟨q, hq, rfl⟩ := s
    obtain ⟨xs0, _, hv0, _⟩ := ok.list hq hm
    refine ⟨_, ho, .inl ⟨rfl, xs0, sq_of hv0⟩, S, as, ok, en, fun m p S2 H2 pm p2 hp ok2 => ?_, fun c S2 H2 p p2 ok2 => (kk _ (.inr ⟨c, p, rfl⟩)).exc p2 ok2 (en.ex p2.ex)⟩
    obtain ⟨l, rfl, pl⟩ := pm
    obtain ⟨ok3, hS, ys, hy, ry⟩ := ok2.init ok.own.length
    obtain ⟨xs, hS2, hv, rl⟩ := ok3.list hq hm
    refine ⟨q, p, xs, ys, rfl, rfl, hv, hy, sz_of (by rw [rl.length, ry.length]; exact (hr l pl).1), ?_⟩
    obtain ⟨ok4, p4⟩ := ok3.mutL hq hS2 (rl.append ry)
    exact (kk _ (.inl ⟨l, pl, rfl⟩)).go (p2.trans p4) ok4 ((en.ex p2.ex).ex p4.ex)
  · rintro env1 M1 (⟨l, pl, e1⟩ | ⟨c, _, e1⟩)
    · cases e1; exact (hr l pl).2
    · cases e1
  · rintro o (⟨l, pl, rfl⟩ | ⟨c, p, rfl⟩) hn
    · cases hn
    · exact hx c p
/-- the turns over a list of one's own, that stays as it is -/
def LoopP (X : Cx) (E : WK) (body : List Stmt) (asg : List Slot → D → List Slot → Prop) (k : Nat) (ds0 : List D) (Kn : List Slot → List MO → Prop) (P : Out → Prop) : List D → List Slot → List MO → Prop
  | [], env, M => M[k]? = some (.ml ds0) ∧ Kn env M
  | d :: ds, env, M => M[k]? = some (.ml ds0) ∧ ∃ env' Pb, asg env d env' ∧ BS X E env' M body Pb ∧ ∀ o, Pb o → match o with
    | .nx e m => LoopP X E body asg k ds0 Kn P ds e m
    | .ct e m => LoopP X E body asg k ds0 Kn P ds e m
    | .bk e m => Kn e m
    | o => P o
theorem LoopP.has {asg : List Slot → D → List Slot → Prop} {ds0 : List D} {Kn : List Slot → List MO → Prop} : ∀ {ds : List D} {env : List Slot} {M : List MO}, LoopP X E body asg k ds0 Kn P ds env M → M[k]? = some (.ml ds0)
  | [], _, _, h => h.1
  | _ :: _, _, _, h => h.1
theorem ss_forP {tg : Expr} {g : TG} {vs : List Nat} {asg : List Slot → D → List Slot → Prop} (hp : PassesOwn (model X.prog X.w) X.A X.env X.xe) (hc : X.calm = true) (h : PE X e (tVar i)) (hei : env[i]? = some (.ptr k)) (hg : PG X tg g) (ht : Tg X.K g vs asg)
    (hl : LoopP X E body asg k ds (fun e m => BS X E e m rest P) P ds env M) (hs : ∀ x, foldedSetIterable e X.env x = pure x := by intro _; rfl) : BS X E env M (.For tg e body [] pos :: rest) P := by
  refine PSs.imp (pss_cons (ps_for hp hc (pi_list h) hg (tAnyB.ok (E := E)) hs) (tRest.ok (E := E) (P := P))) fun Dn σ H ⟨S, as, ok, en, kk⟩ => ?_
  obtain ⟨o1, ho, s⟩ := en.get hei
  obtain ⟨q, hq, rfl⟩ := s
  obtain ⟨xs0, _, hv0, _⟩ := ok.list hq hl.has
  refine ⟨_, ho, q, rfl, ⟨xs0, sq_of hv0⟩, ?_⟩
  have turnEq : ∀ i d, ds[i]? = some d → ds.drop i = d :: ds.drop (i + 1) := fun i d h => by
    obtain ⟨hlt, e⟩ := List.getElem?_eq_some_iff.mp h
    rw [← e]; exact List.drop_eq_getElem_cons hlt
  have pre : ∀ ns : List Addr, (as ++ ns)[k]? = some q := fun ns => by rw [List.getElem?_append_left (List.getElem?_eq_some_iff.mp hq).1]; exact hq
  refine ⟨fun i m σ' H' => m = ds.length - i ∧ i ≤ ds.length ∧ ∃ env' M' S' ns, LoopP X E body asg k ds (fun e m => BS X E e m rest P) P (ds.drop i) env' M' ∧ Post as S H S' H' ∧ (∀ a ∈ ns, H a = none) ∧ Ok X.K S' (as ++ ns) M' H' ∧ EnvR X.K S' (as ++ ns) env' σ',
    ⟨_, rfl, Nat.zero_le _, env, M, S, [], by rw [List.drop_zero]; exact hl, Post.refl, (fun _ z => nomatch z), by rw [List.append_nil]; exact ok, by rw [List.append_nil]; exact en⟩, ?_⟩
  rintro i m σ2 H2 ⟨rfl, hi, env', M', S', ns, lp, p2, fr, ok2, en2⟩
  obtain ⟨xs, hS, hv, rl⟩ := ok2.list (pre ns) lp.has
  have hxl := rl.length
  by_cases hlt : i < ds.length
  · right
    obtain ⟨d, hd⟩ : ∃ d, ds[i]? = some d := ⟨ds[i], by simp [hlt]⟩
    obtain ⟨y, hy, ry⟩ := rl.get hd
    refine ⟨⟨xs, y, sq_of hv, hy⟩, fun σ' H' => (i + 1 ≤ ds.length ∧ ∃ env' M' S' ns, LoopP X E body asg k ds (fun e m => BS X E e m rest P) P (ds.drop (i + 1)) env' M' ∧ Post as S H S' H' ∧ (∀ a ∈ ns, H a = none) ∧ Ok X.K S' (as ++ ns) M' H' ∧ EnvR X.K S' (as ++ ns) env' σ'), fun σ' H' w => ⟨ds.length - (i + 1), by omega, rfl, w⟩, fun x H3 yl => ?_⟩
    obtain ⟨rfl, yl⟩ := yl
    have ex : x = y := by
      have := yl xs (sq_of hv)
      rw [hy] at this
      exact (Option.some.inj this).symm
    subst ex
    rw [turnEq i d hd] at lp
    obtain ⟨_, env4, Pb, ha, hbs, lp⟩ := lp
    refine ht.go S' (as ++ ns) env' σ2 _ d x _ env4 ok2.ex en2 ry ha fun σ4 en4 _ => ?_
    refine ⟨⟨(env4, M', Pb), hbs⟩, S', as ++ ns, ok2, en4, fun o po => ?_⟩
    have lo := lp o po
    have back : ∀ S5 n5 H5, Post (as ++ ns) S' H3 S5 H5 → (∀ a ∈ n5, H3 a = none) → Post as S H S5 H5 ∧ (∀ a ∈ ns ++ n5, H a = none) := fun S5 n5 H5 p5 f5 => by
      refine ⟨p2.grow fr p5, fun a ha => ?_⟩
      rcases List.mem_append.mp ha with ha | ha
      · exact fr a ha
      · cases q : H a with
        | none => rfl
        | some u => exact absurd (f5 a ha) (p2.dom a (by rw [q]; exact fun z => nomatch z))
    cases o with
    | nx e m => exact fun σ5 S5 n5 H5 p5 f5 ok5 en5 => ⟨hlt, e, m, S5, ns ++ n5, lo, (back S5 n5 H5 p5 f5).1, (back S5 n5 H5 p5 f5).2, by rw [← List.append_assoc]; exact ok5, by rw [← List.append_assoc]; exact en5⟩
    | ct e m => exact fun σ5 S5 n5 H5 p5 f5 ok5 en5 => ⟨hlt, e, m, S5, ns ++ n5, lo, (back S5 n5 H5 p5 f5).1, (back S5 n5 H5 p5 f5).2, by rw [← List.append_assoc]; exact ok5, by rw [← List.append_assoc]; exact en5⟩
    | bk e m =>
      intro σ5 S5 n5 H5 p5 f5 ok5 en5
      exact ⟨⟨(e, m), lo⟩, S5, as ++ (ns ++ n5), by rw [← List.append_assoc]; exact ok5, by rw [← List.append_assoc]; exact en5, fun o' p' => (kk o' p').after (back S5 n5 H5 p5 f5).1 (back S5 n5 H5 p5 f5).2⟩
    | rt _ _ => exact HOut.after p2 fr (HOut.ends rfl rfl rfl rfl (kk _ lo)) |> HOut.ends rfl rfl rfl rfl
    | rn _ _ => exact HOut.after p2 fr (HOut.ends rfl rfl rfl rfl (kk _ lo)) |> HOut.ends rfl rfl rfl rfl
    | xx _ _ _ => exact HOut.after p2 fr (HOut.ends rfl rfl rfl rfl (kk _ lo)) |> HOut.ends rfl rfl rfl rfl
  · left
    obtain rfl : i = ds.length := by omega
    rw [List.drop_length] at lp
    exact ⟨⟨xs, sq_of hv, by omega⟩, ⟨(env', M'), lp.2⟩, S', as ++ ns, ok2, en2, fun o' p' => (kk o' p').after p2 fr⟩
end

/-! ### pairs: zip, enumerate -/
def pairsD (xs ys : List D) : List D := List.zipWith (fun a b => D.tup [a, b]) xs ys
theorem pairs_get {xs ys : List D} {i : Nat} {a b : D} (h1 : xs[i]? = some a) (h2 : ys[i]? = some b) : (pairsD xs ys)[i]? = some (.tup [a, b]) := by
  unfold pairsD; rw [List.getElem?_zipWith, h1, h2]
theorem WalkD.pairs {K : PySem.W.Frag} {S2 : Hp} {J : It} {ds es : List D} {xs ys : List V} {G : Hp → Prop} (w : Walk J (min xs.length ys.length) G (YPair (fun i => xs[i]?) (fun i => ys[i]?))) (hG : ∀ H, Ex S2 H → G H) (r : RepL K S2 ds xs) (q : RepL K S2 es ys) : WalkD K S2 J (pairsD ds es) := by
  have hl : (pairsD ds es).length = min xs.length ys.length := by unfold pairsD; rw [List.length_zipWith, r.length, q.length]
  refine ⟨G, _, hl ▸ w, hG, fun i S' H x H' hi e1 e2 y => ?_⟩
  obtain ⟨T, u, v, rfl, hT, rfl, h1, h2⟩ := y
  obtain ⟨d, hd, rd⟩ := r.get' h1
  obtain ⟨f, hf, rf⟩ := q.get' h2
  obtain ⟨a1, a2, a3, a4⟩ := ex_upd2 (o := .tup [u, v]) e2 hT
  exact ⟨_, _, pairs_get hd hf, a1, a2, a3, a4, T, [u, v], rfl, st_of upd_same, RepL.cons ((rd.mono e1).mono a1) (RepL.one ((rf.mono e1).mono a1))⟩
theorem walk_zipT {K : PySem.W.Frag} {a b : Addr} {xs ys : List V} : Walk (RZ.ItzT K a b) (min xs.length ys.length) (fun H => SqT K H a xs ∧ SqT K H b ys) (YPair (fun i => xs[i]?) (fun i => ys[i]?)) := by
  refine ⟨fun i _ hi q => ?_, fun _ q => ⟨xs, ys, q.1, q.2, by omega⟩, fun i H v H' _ q y => ?_⟩
  · have h1 : i < xs.length := by omega
    have h2 : i < ys.length := by omega
    exact ⟨xs, ys, xs[i], ys[i], q.1, q.2, by simp [h1], by simp [h2]⟩
  · obtain ⟨T, x, z, h1, h2, h3, h4, h5⟩ := y
    exact ⟨T, x, z, h1, h2, h3, h4 xs q.1, h5 ys q.2⟩
section
variable {X : Cx} {E : WK} {env : List Slot} {M : List MO} {PX : Value → Prop} {a b : Expr} {pos p tpos : Pos} {elts : List Expr} {kk : Nat} {ds es : List D}
theorem i_zipT (hg : Gl X "zip") (hm : X.mg "zip" = none) (ha : EV X E env M a (· = .tup ds) PX) (hb : EV X E env M b (· = .tup es) PX) (hs : starEach [a, b] X.env = (false, eval a X.env) :: starEach [b] X.env := by rfl) (hs2 : starEach [b] X.env = (false, eval b X.env) :: starEach [] X.env := by rfl) (hpl : (backTo pos (starEach [b] X.env)).any (·.1) = false := by rfl) :
    IV X E env M (.Tuple elts kk tpos) (.Call (.Name "zip" p) [a, b] [] pos) (· = pairsD ds es) PX :=
  PI.imp (RZ.pi_zipA hg hm (DV.n2 ha hb hs hs2) hs hpl) fun σ H R ⟨S, as, ok, en, k, x⟩ => ⟨S, as, ok, en, fun sl vs S2 H2 q p2 ok2 r => by
    obtain ⟨l, rfl, rfl⟩ := q
    obtain ⟨v1, t1, rfl, ⟨a1, xs, rfl, hq, rl⟩, v2, t2, rfl, ⟨b1, ys, rfl, hq2, rl2⟩, rfl⟩ := r.dats
    exact ⟨a1, b1, xs, ys, rfl, .inr ⟨ex_t ok2.ex hq, ex_t ok2.ex hq2, k _ _ S2 H2 rfl p2 ok2 (WalkD.pairs walk_zipT (fun H e => ⟨ex_t e hq, ex_t e hq2⟩) rl rl2)⟩⟩, x⟩
end
end DL

set_option Elab.async false
set_option linter.all false
set_option maxRecDepth 100000
set_option maxHeartbeats 4000000
namespace DL
open PySem PySem.Spec PyProof.Rows L2 Evl
open Sem (wp)
/-! enumerate(t), t a tuple -/
theorem enum_newT {v : Value} {o : Obj} {H : Heap → Prop} (B : Begins v o H) :
    Meets (Builtin.«enumerate.__new__» ⟨[.type "enumerate", v], []⟩) (fun _ R s => H s.heap ∧
      R (.ok (.ret (.ref (s.heap.push o).objs.size))) { s with heap := (s.heap.push o).push { cls := .type "enumerate", data := .fields #[.none, .bool false, .ref s.heap.objs.size, rawInt 0, .none, .none] } }) :=
  .of_wp fun prog w A R s h => by
    obtain ⟨hp, g, d, tk, os⟩ := s; obtain ⟨h1, h⟩ := h
    have hsub := sub_enumerate
    have q1 : ∀ {A' : Around} {E : Value → Shared → Prop} {Q : Value → Shared → Prop}, Q (.ref hp.objs.size) ⟨hp.push o, g, d, tk, os⟩ → wpAny (model prog w) A' (pyIter v) Q E ⟨hp, g, d, tk, os⟩ :=
      fun q => B.iter prog w _ _ ⟨hp, g, d, tk, os⟩ _ h1 q
    wp_walk using q1
    refine wpAny_stack_any fun st => wpAny_pure ?_
    split
    · rename_i c _ _ _ _ _
      cases (c == Value.type "enumerate")
      · wp_walk using q1
        exact ⟨_, rfl, h⟩
      · wp_walk using q1
        exact ⟨_, rfl, h⟩
    · wp_walk using q1
      exact ⟨_, rfl, h⟩
theorem enum_beginsT {prog : Program} {w : World} {A : Around} {E : Value → Shared → Prop} {s : Shared} {v : Value} {o : Obj} {H : Heap → Prop} {Q : Value → Shared → Prop} (B : Begins v o H) (h1 : H s.heap)
    (h : ∀ h', IsEnum h' (s.heap.objs.size + 1) s.heap.objs.size 0 .none → h'.get? s.heap.objs.size = some o → h'.objs.size = s.heap.objs.size + 2 →
      (∀ b o, s.heap.get? b = some o → h'.get? b = some o) → Q (.ref (s.heap.objs.size + 1)) { s with heap := h' }) :
    wpAny (model prog w) A (call (.type "enumerate") [v]) Q E s := by
  refine callType_new F.called_enumerate (by decide) (F.typeCall_enumerate_1 _) (F.newCall_enumerate_1 _) (fun obj => F.args_object_init_2 obj _) F.entry_enumerate_new (enum_newT B) ⟨h1, ?_⟩
  have hz : (s.heap.push o).objs.size = s.heap.objs.size + 1 := Heap.size_push ..
  show _ ∧ _
  rw [hz]
  have he : IsEnum ((s.heap.push o).push { cls := .type "enumerate", data := .fields #[.none, .bool false, .ref s.heap.objs.size, rawInt 0, .none, .none] }) (s.heap.objs.size + 1) s.heap.objs.size 0 .none := by
    have := Heap.get?_push_size (s.heap.push o) (o := { cls := .type "enumerate", data := .fields #[.none, .bool false, .ref s.heap.objs.size, rawInt 0, .none, .none] }) rfl
    rw [hz] at this; exact this
  exact ⟨⟨_, he, rfl⟩, h _ he (Heap.get?_push_of_some _ (Heap.get?_push_size _ B.free)) (by rw [Heap.size_push, hz]) fun b o x => Heap.get?_push_of_some _ (Heap.get?_push_of_some _ x)⟩
/-- the tuple at a as it stands, each item in a new pair with its place -/
def IteT (K : PySem.W.Frag) (a : Addr) : It :=
  ⟨fun i H => ∃ (xs : List V) (x : V), SqT K H a xs ∧ xs[i]? = some x, fun i H v H' => ∃ T x, v = .ref T ∧ H T = none ∧ H' = upd H T (.tup [.int (i : Nat), x]) ∧ ∀ xs, SqT K H a xs → xs[i]? = some x, fun i H => ∃ xs : List V, SqT K H a xs ∧ xs.length ≤ i⟩
theorem turn_enumT {P : Program} {w : World} {K : PySem.W.Frag} {elts : List Expr} {kk : Nat} {tpos : Pos} (a e it : Addr) :
    Turn P w K (.Tuple elts kk tpos) (IteT K a) [e, it] e (fun i h => (∃ old, IsEnum h e it ((i : Nat) : Int) old) ∧ h.IsTupleIter it a i ∧ e ≠ it) where
  mem := by simp
  obj := fun i h st b hb => by
    obtain ⟨⟨old, he⟩, ⟨o, ho, hc, hd⟩, _⟩ := st
    have e' : b = e ∨ b = it := by simpa using hb
    rcases e' with z | z
    · rw [z]; exact ⟨_, he, fun v q => nomatch q⟩
    · rw [z]; exact ⟨o, ho, fun v q => by rw [hd] at q; cases q⟩
  keep := fun i h h' st k => let ⟨⟨old, he⟩, hi, hne⟩ := st; ⟨⟨old, k e (by simp) _ he⟩, hi.at fun o q => k it (by simp) o q, hne⟩
  item := by
    intro X hP hw hK hc i pins s σ H E I hf st hg
    subst hP hw hK
    obtain ⟨⟨old, he⟩, hit, hne⟩ := st
    obtain ⟨xs, x, hq, hx⟩ := hg
    obtain ⟨its, rv, p, hz⟩ := I.tuple hq
    obtain ⟨u, hu, ru⟩ := rv.get hx
    have hel : e < s.heap.objs.size := Heap.lt_size he
    have hil : it < s.heap.objs.size := by obtain ⟨_, q, _⟩ := hit; exact Heap.lt_size q
    obtain ⟨oa, hoa, hca, na, hda⟩ := id p
    have hai : a ≠ it := by
      rintro rfl
      obtain ⟨o2, h2, c2, _⟩ := hit
      rw [hoa] at h2; cases h2
      rw [hca] at c2; exact absurd c2 (by decide)
    have hae : e ∉ [it, a] := by
      intro hm
      have e' : e = it ∨ e = a := by simpa using hm
      rcases e' with z | z
      · exact hne z
      · subst z
        have h2 := he
        unfold IsEnum at h2
        rw [hoa] at h2
        cases h2
        have z : Value.type "enumerate" = Value.type "tuple" := hca
        exact absurd z (by decide)
    have hlt : i < its.toArray.size := by
      have := (List.getElem?_eq_some_iff.mp hu).1
      simpa using this
    refine wpAny_pyNext_enum_itemD (Draws.tuple (A := X.A.in1) (show X.A.in1.handled = none from I.ok.hd hc) it a hai its.toArray) he ⟨hit, p⟩ hlt hne hae fun u' h' tk hp' ho hst' hT hsz hk => ?_
    obtain rfl : u' = u := by
      have : its.toArray[i]? = some u := by simpa using hu
      rw [this] at hp'; exact (Option.some.inj hp').symm
    refine ⟨_, rfl, wpAny_letOwnedTupleGo_enum (s := { s with heap := h', toks := tk + 1 }) ho fun h'' he' sb => ?_⟩
    have hT2 : h''.get? s.heap.objs.size = some { cls := .type "tuple", data := .seq #[.int i tk, u'] } := (sb.2 _ (Nat.ne_of_gt hel)).trans hT
    have new : ObjOk X.prog X.w (upd H s.heap.objs.size (.tup [.int (i : Nat), x])) h'' s.heap.objs.size (.tup [.int (i : Nat), x]) :=
      ⟨by show 2 ≤ sizeLine; decide, [.int i tk, u'], .cons ⟨_, rfl⟩ (.cons ru .nil), ⟨_, hT2, rfl, _, rfl⟩⟩
    have I1 : L2.Inv X pins σ (upd H s.heap.objs.size (.tup [.int (i : Nat), x])) { s with heap := h'', toks := tk + 1 } :=
      I.turnedNew (ch := [e, it]) (fun b ob hb q => (sb.2 b (fun z => hb (by simp [z]))).trans (hk b ob (fun z => hb (by simp [z])) (fun z => hb (by simp [z])) q)) hf (Nat.le_refl _) new
    refine ⟨.ref s.heap.objs.size, _, I1, rfl, ⟨_, x, rfl, I.hok.fresh (Nat.le_refl _), rfl, fun ys hy => by rw [I.tuple_inj hy hq]; exact hx⟩, ⟨⟨u', ?_⟩, hst'.1.at fun o q => (sb.2 it (Ne.symm hne)).trans q, hne⟩, fun b hb => ?_⟩
    · have e1 : ((i + 1 : Nat) : Int) = (i : Int) + 1 := by omega
      rw [e1]; exact he'
    · have hb' : b < s.heap.objs.size := by
        have e' : b = e ∨ b = it := by simpa using hb
        rcases e' with z | z
        · rw [z]; exact hel
        · rw [z]; exact hil
      rw [upd_ne (Nat.ne_of_lt hb')]
      exact (hf b hb).1
  done := by
    intro X hP hw hK hc i pins s σ H E I hf st hg
    subst hP hw hK
    obtain ⟨⟨old, he⟩, hit, hne⟩ := st
    obtain ⟨xs, hq, hx⟩ := hg
    obtain ⟨its, rv, p, hz⟩ := I.tuple hq
    obtain ⟨oa, hoa, hca, na, hda⟩ := id p
    have hai : a ≠ it := by
      rintro rfl
      obtain ⟨o2, h2, c2, _⟩ := hit
      rw [hoa] at h2; cases h2
      rw [hca] at c2; exact absurd c2 (by decide)
    obtain ⟨f0, f1, f2, f3, f4, f5⟩ := hf it (by simp)
    have hl := rv.length
    have hT : s.TypeIs (.ref e) "enumerate" := ⟨_, he, rfl⟩
    unfold pyNext
    refine wpAny_bind (wpAny_attempt (wpAny_callSpecial?_slot (name := Str.ofString "__next__") hT F.slot_enumerate_next (wpAny_call_entry F.slot_enumerate_next hT F.entry_enumerate_next ?_ (F.args_enumerate_next_1 _))))
    show wpAny _ _ (field (.ref e) 2 >>= _) _ _ _
    refine wpAny_bind (wpAny_field he rfl (x := .ref it) rfl ?_)
    refine wpAny_bind (wpAny_nextOf_tuple_end (show X.A.in1.handled = none from I.ok.hd hc) hit p (by simp; omega) fun h' x he' hx' => ?_)
    obtain ⟨o, ho, hc'⟩ := hx'
    refine wpAny_bind (wpAny_isInstance (T := "StopIteration") (b := true) ⟨o, ho, hc'⟩ isSubtype_stop ?_)
    exact wpAny_pure ⟨rfl, I.turned (t' := s.toks) (fun b o hb q => he' b o hb q) f0 f1 f3 f4 f5⟩
  self := fun A i s Q E st h => let ⟨⟨_, he⟩, _⟩ := st; wpAny_pyIter_enum he h
def iEnumT (K : PySem.W.Frag) (ta : TA) : TI := fun σ H R => ta σ H fun vs H1 => ∃ a xs, vs = [.ref a] ∧ SqT K H1 a xs ∧ R (IteT K a) H1
theorem pi_enumT {X : Cx} {e : Expr} {ta : TA} {p pos tpos : Pos} {elts : List Expr} {kk : Nat} (hg : Gl X "enumerate") (hm : X.mg "enumerate" = none) (ha : PA X [e] ta) (hs : starEach [e] X.env = [(false, eval e X.env)] := by rfl) :
    PI X (.Tuple elts kk tpos) (.Call (.Name "enumerate" p) [e] [] pos) (iEnumT X.K ta) := by
  refine ⟨fun pins s σ H R I h => ?_⟩
  refine Call_ (ld_blt I hg hm boot_enumerate (PyProof.Rows.callWith_type1 (thn (ha.run pos pins s σ H _ I h) fun us s1 ⟨vs, H1, I1, r1, q1⟩ => ?_) hs rfl))
  obtain ⟨a, xs, ex, hq, q⟩ := q1
  subst ex
  cases r1 with
  | cons r rr =>
    cases rr
    cases r
    obtain ⟨its, rv, p', hz⟩ := I1.tuple hq
    refine enum_beginsT (begins_tuple a its.toArray) (show s1.heap.IsTuple a its.toArray from p') fun h' he hit hsz hk => wpAny_pyIter_enum he ?_
    have I2 : L2.Inv X pins σ H1 { s1 with heap := h' } := I1.kept (t' := s1.toks) hk
    refine ⟨s1.heap.objs.size + 1, [s1.heap.objs.size + 1, s1.heap.objs.size], _, _, H1, rfl, I2, turn_enumT a (s1.heap.objs.size + 1) s1.heap.objs.size, ⟨⟨.none, he⟩, ⟨_, hit, rfl, rfl⟩, Nat.succ_ne_self _⟩, fun b hb => ?_, q⟩
    have e' : b = s1.heap.objs.size + 1 ∨ b = s1.heap.objs.size := by simpa using hb
    have hle : s1.heap.objs.size ≤ b := by
      rcases e' with z | z
      · rw [z]; exact Nat.le_add_right _ _
      · rw [z]; exact Nat.le_refl _
    exact I1.fpOk hle (I1.hok.fresh hle)
theorem walk_enumT {K : PySem.W.Frag} {a : Addr} {xs : List V} : Walk (IteT K a) xs.length (fun H => SqT K H a xs) (YPair (fun i => some (.int (i : Nat))) (fun i => xs[i]?)) := by
  refine ⟨fun i _ hi q => ⟨xs, xs[i], q, by simp [hi]⟩, fun _ q => ⟨xs, q, Nat.le_refl _⟩, fun i H v H' _ q y => ?_⟩
  obtain ⟨T, x, h1, h2, h3, h4⟩ := y
  exact ⟨T, .int (i : Nat), x, h1, h2, h3, rfl, h4 xs q⟩
def enumD (ds : List D) : List D := pairsD (upFrom 0 ds.length) ds
section
variable {X : Cx} {E : WK} {env : List Slot} {M : List MO} {PX : Value → Prop} {a b : Expr} {pos p tpos : Pos} {elts : List Expr} {kk : Nat} {ds es : List D}
theorem enum_walk {K : PySem.W.Frag} {S2 : Hp} {J : It} {xs : List V} {G : Hp → Prop} (w : Walk J xs.length G (YPair (fun i => some (.int (i : Nat))) (fun i => xs[i]?))) (hG : ∀ H, Ex S2 H → G H) (r : RepL K S2 ds xs) : WalkD K S2 J (enumD ds) := by
  have hl : (enumD ds).length = xs.length := by unfold enumD pairsD; rw [List.length_zipWith, upFrom_len, r.length, Nat.min_self]
  refine ⟨G, _, hl ▸ w, hG, fun i S' H x H' hi e1 e2 y => ?_⟩
  obtain ⟨T, u, v, rfl, hT, rfl, h1, h2⟩ := y
  obtain rfl : V.int (i : Nat) = u := Option.some.inj h1
  obtain ⟨f, hf, rf⟩ := r.get' h2
  have hi' : i < ds.length := (List.getElem?_eq_some_iff.mp hf).1
  obtain ⟨a1, a2, a3, a4⟩ := ex_upd2 (o := .tup [.int (i : Nat), v]) e2 hT
  refine ⟨_, _, pairs_get (upFrom_get hi') hf, a1, a2, a3, a4, T, [.int (i : Nat), v], rfl, st_of upd_same, RepL.cons ?_ (RepL.one ((rf.mono e1).mono a1))⟩
  show V.int (i : Nat) = V.int (0 + (i : Nat))
  rw [Int.zero_add]
theorem i_enumT (hg : Gl X "enumerate") (hm : X.mg "enumerate" = none) (ha : EV X E env M a (· = .tup ds) PX) (hs : starEach [a] X.env = [(false, eval a X.env)] := by rfl) :
    IV X E env M (.Tuple elts kk tpos) (.Call (.Name "enumerate" p) [a] [] pos) (· = enumD ds) PX :=
  PI.imp (pi_enumT hg hm (DV.n1 ha hs) hs) fun σ H R ⟨S, as, ok, en, k, x⟩ => ⟨S, as, ok, en, fun sl vs S2 H2 q p2 ok2 r => by
    obtain ⟨l, rfl, rfl⟩ := q
    obtain ⟨v1, t1, rfl, ⟨a1, xs, rfl, hq, rl⟩, rfl⟩ := r.dats
    exact ⟨a1, xs, rfl, ex_t ok2.ex hq, k _ _ S2 H2 rfl p2 ok2 (enum_walk walk_enumT (fun H e => ex_t e hq) rl)⟩, x⟩
end
end DL

set_option Elab.async false
set_option linter.all false
set_option maxRecDepth 100000
set_option maxHeartbeats 4000000
namespace DL
open PySem PySem.Spec PyProof.Rows L2 Evl
section
variable {X : Cx} {E : WK} {env : List Slot} {M : List MO} {body : List Stmt} {asg : List Slot → D → List Slot → Prop} {Kn : List Slot → List MO → Prop} {P : Out → Prop} {ds : List D} {k : Nat}
/-- what a turn is to come to -/
def TurnTo (I : List Slot → List MO → Prop) (Kn : List Slot → List MO → Prop) (P : Out → Prop) : Out → Prop
  | .nx e m => I e m
  | .ct e m => I e m
  | .bk e m => Kn e m
  | o => P o
/-- by an invariant -/
theorem Loop.ind (I : Nat → List Slot → List MO → Prop) (h0 : I 0 env M) (fin : ∀ env M, I ds.length env M → Kn env M)
    (step : ∀ i d, ds[i]? = some d → ∀ env M, I i env M → ∃ env', asg env d env' ∧ BS X E env' M body (TurnTo (I (i + 1)) Kn P)) : Loop X E body asg Kn P ds env M := by
  have go : ∀ m n env M, m = ds.length - n → n ≤ ds.length → I n env M → Loop X E body asg Kn P (ds.drop n) env M := by
    intro m
    induction m with
    | zero =>
      intro n env M hm hn hI
      obtain rfl : n = ds.length := by omega
      rw [List.drop_length]
      exact fin env M hI
    | succ m ih =>
      intro n env M hm hn hI
      have hlt : n < ds.length := by omega
      rw [List.drop_eq_getElem_cons hlt]
      obtain ⟨env', ha, hb⟩ := step n ds[n] (List.getElem?_eq_getElem hlt) env M hI
      refine ⟨env', _, ha, hb, fun o po => ?_⟩
      cases o with
      | nx e m' => exact ih (n + 1) e m' (by omega) hlt po
      | ct e m' => exact ih (n + 1) e m' (by omega) hlt po
      | bk e m' => exact po
      | rt _ _ => exact po
      | rn _ _ => exact po
      | xx _ _ _ => exact po
  have := go ds.length 0 env M (by omega) (by omega) h0
  rwa [List.drop_zero] at this
theorem LoopP.ind (I : Nat → List Slot → List MO → Prop) (hk : ∀ i env M, I i env M → M[k]? = some (.ml ds)) (h0 : I 0 env M) (fin : ∀ env M, I ds.length env M → Kn env M)
    (step : ∀ i d, ds[i]? = some d → ∀ env M, I i env M → ∃ env', asg env d env' ∧ BS X E env' M body (TurnTo (I (i + 1)) Kn P)) : LoopP X E body asg k ds Kn P ds env M := by
  have go : ∀ m n env M, m = ds.length - n → n ≤ ds.length → I n env M → LoopP X E body asg k ds Kn P (ds.drop n) env M := by
    intro m
    induction m with
    | zero =>
      intro n env M hm hn hI
      obtain rfl : n = ds.length := by omega
      rw [List.drop_length]
      exact ⟨hk _ _ _ hI, fin env M hI⟩
    | succ m ih =>
      intro n env M hm hn hI
      have hlt : n < ds.length := by omega
      rw [List.drop_eq_getElem_cons hlt]
      obtain ⟨env', ha, hb⟩ := step n ds[n] (List.getElem?_eq_getElem hlt) env M hI
      refine ⟨hk _ _ _ hI, env', _, ha, hb, fun o po => ?_⟩
      cases o with
      | nx e m' => exact ih (n + 1) e m' (by omega) hlt po
      | ct e m' => exact ih (n + 1) e m' (by omega) hlt po
      | bk e m' => exact po
      | rt _ _ => exact po
      | rn _ _ => exact po
      | xx _ _ _ => exact po
  have := go ds.length 0 env M (by omega) (by omega) h0
  rwa [List.drop_zero] at this
end
end DL

set_option Elab.async false
set_option linter.all false
set_option maxRecDepth 100000
set_option maxHeartbeats 4000000
namespace DL
open PySem PySem.Spec PyProof.Rows L2 Evl
/-! the mirror: what rowmint/columns.py reckons -/
def small : Str := "abcdefghijklmnopqrstuvwxyz"
def cpsD : D → List Nat
  | .str z => z.cps.toList | _ => []
def isWord (d : D) : Bool := isStr d && (decide ((1 : Int) ≤ lenD d) && decide ((lenD d : Int) ≤ 8) && ((cpsD d).map fun c => decide (c ∈ small.cps.toList)).all id)
def nI : D → Int
  | .int i => i | .bl b => if b then 1 else 0 | _ => 0
def isWhole (d : D) (lo hi : Int) : Bool := isInt d && (!isBool d && (decide (lo ≤ nI d) && decide (nI d ≤ hi)))
def items : D → List D
  | .tup ds => ds | .lst ds => ds | _ => []
/-- what is less, of numbers, of words -/
def ltD : D → D → Bool
  | .int i, .int j => decide (i < j) | .str x, .str y => decide (x.cps.toList < y.cps.toList) | _, _ => false
def itemD (d : D) (i : Nat) : D := (items d).getD i .non
def riseL (ds : List D) : Bool := ((upFrom 0 ((ds.length : Int) - 1).toNat).map fun k => ltD (ds.getD (nI k).toNat .non) (ds.getD ((nI k).toNat + 1) .non)).all id
/-- numbers alone, or texts alone -/
def Homo (ds : List D) : Prop := (∀ d ∈ ds, ∃ i, d = .int i) ∨ ∀ d ∈ ds, ∃ z, d = .str z
def areValues (d : D) : Bool := if (!isTup d || !(decide ((1 : Int) ≤ lenD d) && decide ((lenD d : Int) ≤ 8))) = true then false else if (!((items d).map isWord).all id && !((items d).map fun x => isWhole x 0 99).all id) = true then false else riseL (items d)
def isColumn (d : D) : Bool := isTup d && (decide ((lenD d : Int) = 2) && (isWord (itemD d 0) && areValues (itemD d 1)))
abbrev Cl := Str × List D
def colD (c : Cl) : D := .tup [.str c.1, .tup c.2]
def colsD (cs : List Cl) : D := .tup (cs.map colD)
def keyOf (d : D) : Key := match d with
  | .str z => .inr z | .int i => .inl i | _ => .inl 0
def areColumns (d : D) : Bool := if (!isTup d || !(decide ((1 : Int) ≤ lenD d) && decide ((lenD d : Int) ≤ 3))) = true then false else if (!((items d).map isColumn).all id) = true then false else
  decide ((((dedK ((items d).map fun x => keyOf (itemD x 0))).length : Nat) : Int) = lenD d)
def spotOf (cs : List Cl) (x : Str) : Nat := cs.findIdx fun c => decide (c.1 = x)
def valsOf (cs : List Cl) (x : Str) : List D := (cs.getD (spotOf cs x) ("", [])).2
def isValueL (vals : List D) (d : D) : Bool := if (isBool d || !(isInt d || isStr d)) = true then false else inF d vals
def allRows (cs : List Cl) : List (List D) := cs.foldl (fun found c => found.flatMap fun row => c.2.map fun v => row ++ [v]) [[]]
def isRow (cs : List Cl) (d : D) : Bool := if (!isTup d || !decide ((lenD d : Int) = cs.length)) = true then false else ((List.zipWith (fun c v => isValueL (valsOf cs c.1) v) cs (items d))).all id
/-- columns that are fit -/
structure Fit (cs : List Cl) : Prop where
  few : cs.length ≤ 3
  flat : ∀ c ∈ cs, c.2.all flatD = true
  short : ∀ c ∈ cs, c.2.length ≤ 8
/-- the module's constants -/
structure Cols (K : PySem.W.Frag) (mg : Str → Option Value) : Prop where
  small : ∃ t, mg "SMALL" = some (.str small t)
  name : ∃ t, mg "MOST_NAME" = some (.int 8 t)
  number : ∃ t, mg "MOST_NUMBER" = some (.int 99 t)
  values : ∃ t, mg "MOST_VALUES" = some (.int 8 t)
  columns : ∃ t, mg "MOST_COLUMNS" = some (.int 3 t)
theorem q_gint {X : Cx} {E : WK} {env : List Slot} {M : List MO} {PX : Value → Prop} {x : Str} {i : Int} {pos : Pos} (hg : Gl X x) (h : ∃ t, X.mg x = some (.int i t)) (hd : (x == ("__debug__" : Str)) = false := by decide) : EV X E env M (.Name x pos) (· = .int i) PX := by
  obtain ⟨t, h⟩ := h
  exact e_const (v := .int i) (pe_glob hg h ⟨t, rfl⟩ hd) fun _ => rfl
theorem q_gstr {X : Cx} {E : WK} {env : List Slot} {M : List MO} {PX : Value → Prop} {x z : Str} {pos : Pos} (hg : Gl X x) (h : ∃ t, X.mg x = some (.str z t)) (hd : (x == ("__debug__" : Str)) = false := by decide) : EV X E env M (.Name x pos) (· = .str z) PX := by
  obtain ⟨t, h⟩ := h
  exact e_const (v := .str z) (pe_glob hg h ⟨t, rfl⟩ hd) fun _ => rfl
theorem isStr_of {d : D} (h : isStr d = true) : ∃ z, d = .str z := by cases d <;> first | (cases h; done) | exact ⟨_, rfl⟩
theorem isTup_of {d : D} (h : isTup d = true) : ∃ z, d = .tup z := by cases d <;> first | (cases h; done) | exact ⟨_, rfl⟩
theorem isLst_of {d : D} (h : isLst d = true) : ∃ z, d = .lst z := by cases d <;> first | (cases h; done) | exact ⟨_, rfl⟩
theorem isInt_of {d : D} (h : isInt d = true) (g : isBool d = false) : ∃ z, d = .int z := by cases d <;> first | (cases h; done) | (cases g; done) | exact ⟨_, rfl⟩
/-- [elt for a, b in pairs] -/
theorem q_lc2 {X : Cx} {E : WK} {env : List Slot} {M : List MO} {PX : Value → Prop} {pos : Pos} {elt tg iter : Expr} {scope : Scope} {x y : Str} {i j : Nat} {ds : List D} {f : D → D} (hij : i ≠ j) (hc : X.calm = true) (hN : X.N.Nodup) (hi : IV X E env M tg iter (· = ds) PX) (ok : BlkOk X.N X.env.scope scope [(x, i), (y, j)])
    (hg : ∀ (s : Shared) (H : Hp) (C : Addr) (cl : List (Str × Addr)) (fp : List Addr), PG (X.blk s H scope (compEnvC scope cl C X.env) fp) tg (gTup X.K 2 (gCons (gName i) (gCons (gName j) gNil)))) (hl : ds.length ≤ 100000)
    (he : ∀ d ∈ ds, ∃ d1 d2, d = .tup [d1, d2] ∧ ∀ (s : Shared) (H : Hp) (C : Addr) (cl : List (Str × Addr)) (fp : List Addr), EV (X.blk s H scope (compEnvC scope cl C X.env) fp) E00 (((wipeE env [i, j]).set i (.dat d1)).set j (.dat d2)) M elt (· = f d) N0) (hs : ∀ x, foldedSetIterable iter X.env x = pure x := by intro _; rfl) :
    EV X E env M (.ListComp elt [⟨tg, iter, [], 0⟩] scope pos) (· = .lst (ds.map f)) PX :=
  e_lc (Pt := fun _ b => b = true) (Pe := fun d r => r = f d) hc hN hi ok hg (tg2 hij)
    ⟨fun ds' d e hm => by obtain ⟨d1, d2, q, _⟩ := he d (e ▸ hm); exact ⟨_, d1, d2, q, rfl⟩, fun ds' e => by rw [e]; exact hl, fun ds' d env' e hm _ ha s H C cl fp => by
      obtain ⟨d1, d2, q, h⟩ := he d (e ▸ hm)
      obtain ⟨e1, e2, q2, rfl⟩ := ha
      rw [q] at q2
      cases q2
      exact h s H C cl fp, fun _ _ _ _ _ _ _ _ _ _ _ => ts_nil rfl⟩ (fun ds' rs e h => by rw [h.map, e]) hs
section
variable {X : Cx} {E : WK} {env : List Slot} {M : List MO} {PX : Value → Prop} {a b c : Expr} {pos p : Pos} {da db dc : D} {name : Str} {ps : List Str} {k : Nat}
theorem q_callB1 {dom : D → Prop} {g : D → Bool} (h : Has X.prog X.w X.K X.mg X.base CX0 name ps k (spF X.K (det1 dom fun d => .bl (g d)))) (hr : Room k X.A) (hg : Gl X name) (ha : EV X E env M a (· = da) PX) (hd : dom da)
    (hdb : (name == ("__debug__" : Str)) = false := by decide) (he : starEach [a] X.env = (false, eval a X.env) :: starEach [] X.env := by rfl) (hpl : (backTo pos (starEach [] X.env)).any (·.1) = false := by rfl) : EV X E env M (.Call (.Name name p) [a] [] pos) (· = .bl (g da)) PX := q_call1 h hr hg ha hd hdb he hpl
theorem q_callB2 {dom : D → D → Prop} {g : D → D → Bool} (h : Has X.prog X.w X.K X.mg X.base CX0 name ps k (spF X.K (det2 dom fun d e => .bl (g d e)))) (hr : Room k X.A) (hg : Gl X name) (ha : EV X E env M a (· = da) PX) (hb : EV X E env M b (· = db) PX) (hd : dom da db)
    (hdb : (name == ("__debug__" : Str)) = false := by decide) (he : starEach [a, b] X.env = (false, eval a X.env) :: starEach [b] X.env := by rfl) (he2 : starEach [b] X.env = (false, eval b X.env) :: starEach [] X.env := by rfl) (hpl : (backTo pos (starEach [b] X.env)).any (·.1) = false := by rfl) : EV X E env M (.Call (.Name name p) [a, b] [] pos) (· = .bl (g da db)) PX := q_call2 h hr hg ha hb hd hdb he he2 hpl
theorem q_callB3 {dom : D → D → D → Prop} {g : D → D → D → Bool} (h : Has X.prog X.w X.K X.mg X.base CX0 name ps k (spF X.K (det3 dom fun d e f => .bl (g d e f)))) (hr : Room k X.A) (hg : Gl X name) (ha : EV X E env M a (· = da) PX) (hb : EV X E env M b (· = db) PX) (hc : EV X E env M c (· = dc) PX) (hd : dom da db dc)
    (hdb : (name == ("__debug__" : Str)) = false := by decide) (he : starEach [a, b, c] X.env = (false, eval a X.env) :: starEach [b, c] X.env := by rfl) (he2 : starEach [b, c] X.env = (false, eval b X.env) :: starEach [c] X.env := by rfl) (he3 : starEach [c] X.env = (false, eval c X.env) :: starEach [] X.env := by rfl) (hpl : (backTo pos (starEach [b, c] X.env)).any (·.1) = false := by rfl) :
    EV X E env M (.Call (.Name name p) [a, b, c] [] pos) (· = .bl (g da db dc)) PX := q_call3 h hr hg ha hb hc hd hdb he he2 he3 hpl
end
theorem ifT {α : Type} {b : Bool} {x y : α} (h : true = b) : (if b = true then x else y) = x := by rw [if_pos h.symm]
theorem ifF {α : Type} {b : Bool} {x y : α} (h : false = b) : (if b = true then x else y) = y := by rw [if_neg (by rw [← h]; exact Bool.false_ne_true)]
theorem getD_mem {ds : List D} {i : Nat} (h : i < ds.length) : ds.getD i .non ∈ ds := by rw [List.getD_eq_getElem?_getD, List.getElem?_eq_getElem h]; exact List.getElem_mem _
theorem atI_getD {ds : List D} {i : Nat} (h : i < ds.length) : atI ds (i : Int) = some (ds.getD i .non) := atI_nat (by rw [List.getD_eq_getElem?_getD, List.getElem?_eq_getElem h]; rfl)
theorem word_str {d : D} (h : isWord d = true) : ∃ z, d = .str z := isStr_of (by unfold isWord at h; rw [Bool.and_eq_true] at h; exact h.1)
theorem whole_int {d : D} {lo hi : Int} (h : isWhole d lo hi = true) : ∃ z, d = .int z := by
  unfold isWhole at h
  rw [Bool.and_eq_true, Bool.and_eq_true] at h
  exact isInt_of h.1 (by have := h.2.1; revert this; cases isBool d <;> simp)
theorem homo_of {ds : List D} (h : (!(ds.map isWord).all id && !(ds.map fun x => isWhole x 0 99).all id) = false) : Homo ds := by
  rw [Bool.and_eq_false_iff] at h
  rcases h with h | h
  · right
    intro d hd
    have : (ds.map isWord).all id = true := by revert h; cases (ds.map isWord).all id <;> simp
    rw [List.all_map, List.all_eq_true] at this
    exact word_str (this d hd)
  · left
    intro d hd
    have : (ds.map fun x => isWhole x 0 99).all id = true := by revert h; cases (ds.map fun x => isWhole x 0 99).all id <;> simp
    rw [List.all_map, List.all_eq_true] at this
    exact whole_int (this d hd)
end DL

set_option Elab.async false
set_option linter.all false
set_option maxRecDepth 100000
set_option maxHeartbeats 4000000
namespace K
open PySem PySem.Spec PyProof.Rows L2 Evl DL
def top (i : Nat) : Stmt := PySem.Challenge.pw_rowmint_k01_columns_and_rows.main.body.getD i (.Pass ⟨0, 0, 0, 0⟩)
/- is_word: 0 thing 1 sign -/
abbrev s_is_word : Stmt := top 9
abbrev N_is_word : List Str := ["thing", "sign"]
abbrev p_is_word : List Str := ["thing"]
theorem sc_is_word : FnScope N_is_word p_is_word (defScope s_is_word) := ⟨rfl, rfl, rfl, by decide +kernel, rfl, by decide +kernel, by decide +kernel⟩
theorem bn_is_word : Bnd "is_word" s_is_word p_is_word := fun _ _ _ _ _ _ us hl => match us, hl with | [_], _ => rfl
/- is_whole: 0 thing 1 low 2 high -/
abbrev s_is_whole : Stmt := top 10
abbrev N_is_whole : List Str := ["thing", "low", "high"]
abbrev p_is_whole : List Str := ["thing", "low", "high"]
theorem sc_is_whole : FnScope N_is_whole p_is_whole (defScope s_is_whole) := ⟨rfl, rfl, rfl, by decide +kernel, rfl, by decide +kernel, by decide +kernel⟩
theorem bn_is_whole : Bnd "is_whole" s_is_whole p_is_whole := fun _ _ _ _ _ _ us hl => match us, hl with | [_, _, _], _ => rfl
/- rise: 0 some 1 k -/
abbrev s_rise : Stmt := top 11
abbrev N_rise : List Str := ["some", "k"]
abbrev p_rise : List Str := ["some"]
theorem sc_rise : FnScope N_rise p_rise (defScope s_rise) := ⟨rfl, rfl, rfl, by decide +kernel, rfl, by decide +kernel, by decide +kernel⟩
theorem bn_rise : Bnd "rise" s_rise p_rise := fun _ _ _ _ _ _ us hl => match us, hl with | [_], _ => rfl
/- are_values: 0 thing 1 one -/
abbrev s_are_values : Stmt := top 12
abbrev N_are_values : List Str := ["thing", "one"]
abbrev p_are_values : List Str := ["thing"]
theorem sc_are_values : FnScope N_are_values p_are_values (defScope s_are_values) := ⟨rfl, rfl, rfl, by decide +kernel, rfl, by decide +kernel, by decide +kernel⟩
theorem bn_are_values : Bnd "are_values" s_are_values p_are_values := fun _ _ _ _ _ _ us hl => match us, hl with | [_], _ => rfl
/- is_column: 0 thing -/
abbrev s_is_column : Stmt := top 13
abbrev N_is_column : List Str := ["thing"]
abbrev p_is_column : List Str := ["thing"]
theorem sc_is_column : FnScope N_is_column p_is_column (defScope s_is_column) := ⟨rfl, rfl, rfl, by decide +kernel, rfl, by decide +kernel, by decide +kernel⟩
theorem bn_is_column : Bnd "is_column" s_is_column p_is_column := fun _ _ _ _ _ _ us hl => match us, hl with | [_], _ => rfl
/- are_columns: 0 thing 1 one -/
abbrev s_are_columns : Stmt := top 14
abbrev N_are_columns : List Str := ["thing", "one"]
abbrev p_are_columns : List Str := ["thing"]
theorem sc_are_columns : FnScope N_are_columns p_are_columns (defScope s_are_columns) := ⟨rfl, rfl, rfl, by decide +kernel, rfl, by decide +kernel, by decide +kernel⟩
theorem bn_are_columns : Bnd "are_columns" s_are_columns p_are_columns := fun _ _ _ _ _ _ us hl => match us, hl with | [_], _ => rfl
/- spot_of: 0 columns 1 name 2 spot 3 column -/
abbrev s_spot_of : Stmt := top 15
abbrev N_spot_of : List Str := ["columns", "name", "spot", "column"]
abbrev p_spot_of : List Str := ["columns", "name"]
theorem sc_spot_of : FnScope N_spot_of p_spot_of (defScope s_spot_of) := ⟨rfl, rfl, rfl, by decide +kernel, rfl, by decide +kernel, by decide +kernel⟩
theorem bn_spot_of : Bnd "spot_of" s_spot_of p_spot_of := fun _ _ _ _ _ _ us hl => match us, hl with | [_, _], _ => rfl
/- values_of: 0 columns 1 name -/
abbrev s_values_of : Stmt := top 16
abbrev N_values_of : List Str := ["columns", "name"]
abbrev p_values_of : List Str := ["columns", "name"]
theorem sc_values_of : FnScope N_values_of p_values_of (defScope s_values_of) := ⟨rfl, rfl, rfl, by decide +kernel, rfl, by decide +kernel, by decide +kernel⟩
theorem bn_values_of : Bnd "values_of" s_values_of p_values_of := fun _ _ _ _ _ _ us hl => match us, hl with | [_, _], _ => rfl
/- is_value: 0 columns 1 name 2 thing -/
abbrev s_is_value : Stmt := top 17
abbrev N_is_value : List Str := ["columns", "name", "thing"]
abbrev p_is_value : List Str := ["columns", "name", "thing"]
theorem sc_is_value : FnScope N_is_value p_is_value (defScope s_is_value) := ⟨rfl, rfl, rfl, by decide +kernel, rfl, by decide +kernel, by decide +kernel⟩
theorem bn_is_value : Bnd "is_value" s_is_value p_is_value := fun _ _ _ _ _ _ us hl => match us, hl with | [_, _, _], _ => rfl
/- all_rows: 0 columns 1 found 2 name 3 values 4 longer 5 row 6 value -/
abbrev s_all_rows : Stmt := top 18
abbrev N_all_rows : List Str := ["columns", "found", "name", "values", "longer", "row", "value"]
abbrev p_all_rows : List Str := ["columns"]
theorem sc_all_rows : FnScope N_all_rows p_all_rows (defScope s_all_rows) := ⟨rfl, rfl, rfl, by decide +kernel, rfl, by decide +kernel, by decide +kernel⟩
theorem bn_all_rows : Bnd "all_rows" s_all_rows p_all_rows := fun _ _ _ _ _ _ us hl => match us, hl with | [_], _ => rfl
/- is_row: 0 columns 1 thing 2 column 3 value -/
abbrev s_is_row : Stmt := top 19
abbrev N_is_row : List Str := ["columns", "thing", "column", "value"]
abbrev p_is_row : List Str := ["columns", "thing"]
theorem sc_is_row : FnScope N_is_row p_is_row (defScope s_is_row) := ⟨rfl, rfl, rfl, by decide +kernel, rfl, by decide +kernel, by decide +kernel⟩
theorem bn_is_row : Bnd "is_row" s_is_row p_is_row := fun _ _ _ _ _ _ us hl => match us, hl with | [_, _], _ => rfl
/- _law_well: 0 _law_script 1 _law_k 2 _law_cell 3 _law_primes 4 _law_seed -/
abbrev s__law_well : Stmt := top 21
abbrev N__law_well : List Str := ["_law_script", "_law_k", "_law_cell", "_law_primes", "_law_seed"]
abbrev p__law_well : List Str := ["_law_script", "_law_k"]
theorem sc__law_well : FnScope N__law_well p__law_well (defScope s__law_well) := ⟨rfl, rfl, rfl, by decide +kernel, rfl, by decide +kernel, by decide +kernel⟩
theorem bn__law_well : Bnd "_law_well" s__law_well p__law_well := fun _ _ _ _ _ _ us hl => match us, hl with | [_, _], _ => rfl
/- _law_take: 0 _law_well_here 1 _law_many 2 _law_got -/
abbrev s__law_take : Stmt := top 22
abbrev N__law_take : List Str := ["_law_well_here", "_law_many", "_law_got"]
abbrev p__law_take : List Str := ["_law_well_here", "_law_many"]
theorem sc__law_take : FnScope N__law_take p__law_take (defScope s__law_take) := ⟨rfl, rfl, rfl, by decide +kernel, rfl, by decide +kernel, by decide +kernel⟩
theorem bn__law_take : Bnd "_law_take" s__law_take p__law_take := fun _ _ _ _ _ _ us hl => match us, hl with | [_, _], _ => rfl
/- _law_word: 0 _law_well_here 1 _law_signs 2 _law_many 3 _law_k -/
abbrev s__law_word : Stmt := top 23
abbrev N__law_word : List Str := ["_law_well_here", "_law_signs", "_law_many", "_law_k"]
abbrev p__law_word : List Str := ["_law_well_here"]
theorem sc__law_word : FnScope N__law_word p__law_word (defScope s__law_word) := ⟨rfl, rfl, rfl, by decide +kernel, rfl, by decide +kernel, by decide +kernel⟩
theorem bn__law_word : Bnd "_law_word" s__law_word p__law_word := fun _ _ _ _ _ _ us hl => match us, hl with | [_], _ => rfl
/- _law_columns: 0 _law_well_here 1 _law_most 2 _law_longest 3 _law_names 4 _law_k 5 _law_columns_here 6 _law_name 7 _law_values 8 _law_kind 9 _law_far -/
abbrev s__law_columns : Stmt := top 24
abbrev N__law_columns : List Str := ["_law_well_here", "_law_most", "_law_longest", "_law_names", "_law_k", "_law_columns_here", "_law_name", "_law_values", "_law_kind", "_law_far"]
abbrev p__law_columns : List Str := ["_law_well_here", "_law_most", "_law_longest"]
theorem sc__law_columns : FnScope N__law_columns p__law_columns (defScope s__law_columns) := ⟨rfl, rfl, rfl, by decide +kernel, rfl, by decide +kernel, by decide +kernel⟩
theorem bn__law_columns : Bnd "_law_columns" s__law_columns p__law_columns := fun _ _ _ _ _ _ us hl => match us, hl with | [_, _, _], _ => rfl
/- _law_rows: 0 _law_columns_here 1 _law_rows_here 2 _law_name 3 _law_values 4 _law_longer 5 _law_row 6 _law_value -/
abbrev s__law_rows : Stmt := top 25
abbrev N__law_rows : List Str := ["_law_columns_here", "_law_rows_here", "_law_name", "_law_values", "_law_longer", "_law_row", "_law_value"]
abbrev p__law_rows : List Str := ["_law_columns_here"]
theorem sc__law_rows : FnScope N__law_rows p__law_rows (defScope s__law_rows) := ⟨rfl, rfl, rfl, by decide +kernel, rfl, by decide +kernel, by decide +kernel⟩
theorem bn__law_rows : Bnd "_law_rows" s__law_rows p__law_rows := fun _ _ _ _ _ _ us hl => match us, hl with | [_], _ => rfl
/- _law_thing: 0 _law_well_here 1 _law_deep 2 _law_way 3 _law_parts 4 _law_some 5 _law_k -/
abbrev s__law_thing : Stmt := top 26
abbrev N__law_thing : List Str := ["_law_well_here", "_law_deep", "_law_way", "_law_parts", "_law_some", "_law_k"]
abbrev p__law_thing : List Str := ["_law_well_here", "_law_deep"]
theorem sc__law_thing : FnScope N__law_thing p__law_thing (defScope s__law_thing) := ⟨rfl, rfl, rfl, by decide +kernel, rfl, by decide +kernel, by decide +kernel⟩
theorem bn__law_thing : Bnd "_law_thing" s__law_thing p__law_thing := fun _ _ _ _ _ _ us hl => match us, hl with | [_, _], _ => rfl
/- _law_otherwise: 0 _law_well_here 1 _law_thing_here 2 _law_deep 3 _law_parts 4 _law_at 5 _law_way 6 _law_near -/
abbrev s__law_otherwise : Stmt := top 27
abbrev N__law_otherwise : List Str := ["_law_well_here", "_law_thing_here", "_law_deep", "_law_parts", "_law_at", "_law_way", "_law_near"]
abbrev p__law_otherwise : List Str := ["_law_well_here", "_law_thing_here", "_law_deep"]
theorem sc__law_otherwise : FnScope N__law_otherwise p__law_otherwise (defScope s__law_otherwise) := ⟨rfl, rfl, rfl, by decide +kernel, rfl, by decide +kernel, by decide +kernel⟩
theorem bn__law_otherwise : Bnd "_law_otherwise" s__law_otherwise p__law_otherwise := fun _ _ _ _ _ _ us hl => match us, hl with | [_, _, _], _ => rfl
/- _law_is_word: 0 _law_thing_here 1 _law_sign -/
abbrev s__law_is_word : Stmt := top 28
abbrev N__law_is_word : List Str := ["_law_thing_here", "_law_sign"]
abbrev p__law_is_word : List Str := ["_law_thing_here"]
theorem sc__law_is_word : FnScope N__law_is_word p__law_is_word (defScope s__law_is_word) := ⟨rfl, rfl, rfl, by decide +kernel, rfl, by decide +kernel, by decide +kernel⟩
theorem bn__law_is_word : Bnd "_law_is_word" s__law_is_word p__law_is_word := fun _ _ _ _ _ _ us hl => match us, hl with | [_], _ => rfl
/- _law_is_number: 0 _law_thing_here 1 _law_low 2 _law_high -/
abbrev s__law_is_number : Stmt := top 29
abbrev N__law_is_number : List Str := ["_law_thing_here", "_law_low", "_law_high"]
abbrev p__law_is_number : List Str := ["_law_thing_here", "_law_low", "_law_high"]
theorem sc__law_is_number : FnScope N__law_is_number p__law_is_number (defScope s__law_is_number) := ⟨rfl, rfl, rfl, by decide +kernel, rfl, by decide +kernel, by decide +kernel⟩
theorem bn__law_is_number : Bnd "_law_is_number" s__law_is_number p__law_is_number := fun _ _ _ _ _ _ us hl => match us, hl with | [_, _, _], _ => rfl
/- _law_rising: 0 _law_some 1 _law_k -/
abbrev s__law_rising : Stmt := top 30
abbrev N__law_rising : List Str := ["_law_some", "_law_k"]
abbrev p__law_rising : List Str := ["_law_some"]
theorem sc__law_rising : FnScope N__law_rising p__law_rising (defScope s__law_rising) := ⟨rfl, rfl, rfl, by decide +kernel, rfl, by decide +kernel, by decide +kernel⟩
theorem bn__law_rising : Bnd "_law_rising" s__law_rising p__law_rising := fun _ _ _ _ _ _ us hl => match us, hl with | [_], _ => rfl
/- _law_are_values: 0 _law_thing_here 1 _law_words 2 _law_numbers 3 _law_one -/
abbrev s__law_are_values : Stmt := top 31
abbrev N__law_are_values : List Str := ["_law_thing_here", "_law_words", "_law_numbers", "_law_one"]
abbrev p__law_are_values : List Str := ["_law_thing_here"]
theorem sc__law_are_values : FnScope N__law_are_values p__law_are_values (defScope s__law_are_values) := ⟨rfl, rfl, rfl, by decide +kernel, rfl, by decide +kernel, by decide +kernel⟩
theorem bn__law_are_values : Bnd "_law_are_values" s__law_are_values p__law_are_values := fun _ _ _ _ _ _ us hl => match us, hl with | [_], _ => rfl
/- _law_are_columns: 0 _law_thing_here 1 _law_names 2 _law_one -/
abbrev s__law_are_columns : Stmt := top 32
abbrev N__law_are_columns : List Str := ["_law_thing_here", "_law_names", "_law_one"]
abbrev p__law_are_columns : List Str := ["_law_thing_here"]
theorem sc__law_are_columns : FnScope N__law_are_columns p__law_are_columns (defScope s__law_are_columns) := ⟨rfl, rfl, rfl, by decide +kernel, rfl, by decide +kernel, by decide +kernel⟩
theorem bn__law_are_columns : Bnd "_law_are_columns" s__law_are_columns p__law_are_columns := fun _ _ _ _ _ _ us hl => match us, hl with | [_], _ => rfl
/- _law_says: 0 _law_found 1 _law_due -/
abbrev s__law_says : Stmt := top 33
abbrev N__law_says : List Str := ["_law_found", "_law_due"]
abbrev p__law_says : List Str := ["_law_found", "_law_due"]
theorem sc__law_says : FnScope N__law_says p__law_says (defScope s__law_says) := ⟨rfl, rfl, rfl, by decide +kernel, rfl, by decide +kernel, by decide +kernel⟩
theorem bn__law_says : Bnd "_law_says" s__law_says p__law_says := fun _ _ _ _ _ _ us hl => match us, hl with | [_, _], _ => rfl
/- _law_is_row: 0 _law_columns_here 1 _law_thing_here 2 _law_one 3 _law_column -/
abbrev s__law_is_row : Stmt := top 34
abbrev N__law_is_row : List Str := ["_law_columns_here", "_law_thing_here", "_law_one", "_law_column"]
abbrev p__law_is_row : List Str := ["_law_columns_here", "_law_thing_here"]
theorem sc__law_is_row : FnScope N__law_is_row p__law_is_row (defScope s__law_is_row) := ⟨rfl, rfl, rfl, by decide +kernel, rfl, by decide +kernel, by decide +kernel⟩
theorem bn__law_is_row : Bnd "_law_is_row" s__law_is_row p__law_is_row := fun _ _ _ _ _ _ us hl => match us, hl with | [_, _], _ => rfl
/- law: 0 _law_script 1 _law_k 2 _law_well_here 3 _law_columns_here 4 _law_things 5 _law_turn 6 _law_thing_here 7 _law_rows_here 8 _law_told 9 _law_row -/
abbrev s_law : Stmt := top 35
abbrev N_law : List Str := ["_law_script", "_law_k", "_law_well_here", "_law_columns_here", "_law_things", "_law_turn", "_law_thing_here", "_law_rows_here", "_law_told", "_law_row"]
abbrev p_law : List Str := ["_law_script"]
theorem sc_law : FnScope N_law p_law (defScope s_law) := ⟨rfl, rfl, rfl, by decide +kernel, rfl, by decide +kernel, by decide +kernel⟩
theorem bn_law : Bnd "law" s_law p_law := fun _ _ _ _ _ _ us hl => match us, hl with | [_], _ => rfl
end K


set_option Elab.async false
set_option linter.all false
set_option maxRecDepth 100000
set_option maxHeartbeats 4000000
namespace K
open PySem PySem.Spec PyProof.Rows L2 Evl DL
section
variable {P : Program} {w : World} {K : PySem.W.Frag} {mg : Str → Option Value} {base : Heap}
theorem is_word (h : Df K mg "is_word" s_is_word) (B : Bl mg) (C : Cols K mg) : Has P w K mg base CX0 "is_word" p_is_word 1 (spF K (det1 (Nice 50) fun d => .bl (isWord d))) := by
  refine hasF h sc_is_word bn_is_word (by rintro ds Pf PXf ⟨a, rfl, _⟩; rfl) ?_
  rintro f cdv A outer s H E hr ds Pf PXf ⟨a, rfl, hn, rfl, rfl⟩
  refine ss_ret (P1 := (· = .bl (isWord a))) (PX := N0) ?_ (fun d e => e) (fun c z => z.elim)
  refine q_and (q_isStr rfl B.isinstance rfl B.str (e_slot (pv 0) rfl)) fun h1 => q_and (q_chain op_le op_le e_int (q_len rfl B.len (e_slot (pv 0) rfl) (hn.sized (.inl h1))) (q_gint rfl C.name) bin_le fun _ => bin_le) fun h2 => q_one (q_all (bs := (cpsD a).map fun c => decide (c ∈ small.cps.toList)) rfl B.all rfl ?_)
  obtain ⟨z, rfl⟩ := isStr_of h1
  refine EV.to (q_lc (x := "sign") (i := 1) (ds := signsD z) (f := fun d => .bl (match d with | .str y => decide (y.cps.getD 0 0 ∈ small.cps.toList) | _ => false)) rfl sc_is_word.nd (i_str (P := (· = signsD z)) (EV.mono (e_slot (pv 0) rfl) fun d e => ⟨z, e, rfl⟩)) (blkOk_by (N := N_is_word) (sc := defScope s_is_word) (by decide +kernel)) (fun _ _ _ _ _ => pg_name (i := 1) sc_is_word.nd rfl (Or.inl rfl)) ?_ ?_) ?_
  · unfold signsD; rw [List.length_map]; have := hn.str.1; show z.cps.toList.length ≤ 100000; rw [Array.length_toList]; exact Nat.le_trans this (by decide)
  · intro d hd s H C' cl fp
    unfold signsD at hd
    obtain ⟨c, hc, rfl⟩ := List.mem_map.mp hd
    exact q_cmp op_in_sign (e_slot (pv 1) rfl) (q_gstr rfl C.small) rfl (bin_sign rfl)
  · unfold signsD cpsD; rw [List.map_map, List.map_map]; rfl
theorem is_whole (h : Df K mg "is_whole" s_is_whole) (B : Bl mg) : Has P w K mg base CX0 "is_whole" p_is_whole 1 (spF K (det3 (fun _ lo hi => isInt lo = true ∧ isBool lo = false ∧ isInt hi = true ∧ isBool hi = false) fun d lo hi => .bl (isWhole d (nI lo) (nI hi)))) := by
  refine hasF h sc_is_whole bn_is_whole (by rintro ds Pf PXf ⟨a, b, c, rfl, _⟩; rfl) ?_
  rintro f cdv A outer s H E hr ds Pf PXf ⟨a, lo, hi, rfl, ⟨h1, h2, h3, h4⟩, rfl, rfl⟩
  obtain ⟨lo, rfl⟩ := isInt_of h1 h2
  obtain ⟨hi, rfl⟩ := isInt_of h3 h4
  refine ss_ret (P1 := (· = .bl (isWhole a lo hi))) (PX := N0) ?_ (fun d e => e) (fun c z => z.elim)
  refine q_and (q_isInt rfl B.isinstance rfl B.int (e_slot (pv 0) rfl)) fun h1 => q_and (q_not (q_isBool rfl B.isinstance rfl B.bool (e_slot (pv 0) rfl))) fun h2 => q_one ?_
  obtain ⟨i, rfl⟩ := isInt_of h1 (by revert h2; cases isBool a <;> simp)
  exact q_chain op_le op_le (e_slot (pv 1) rfl) (e_slot (pv 0) rfl) (e_slot (pv 2) rfl) bin_le fun _ => bin_le
theorem rise (h : Df K mg "rise" s_rise) (B : Bl mg) : Has P w K mg base CX0 "rise" p_rise 1 (spF K (det1 (fun d => isTup d = true ∧ lenD d ≤ 4000 ∧ Homo (items d)) fun d => .bl (riseL (items d)))) := by
  refine hasF h sc_rise bn_rise (by rintro ds Pf PXf ⟨a, rfl, _⟩; rfl) ?_
  rintro f cdv A outer s H E hr ds Pf PXf ⟨a, rfl, ⟨ht, hl, ho⟩, rfl, rfl⟩
  obtain ⟨xs, rfl⟩ := isTup_of ht
  refine ss_ret (P1 := (· = .bl (riseL xs))) (PX := N0) ?_ (fun d e => e) (fun c z => z.elim)
  have hl' : xs.length ≤ 4000 := hl
  refine q_all (bs := (upFrom 0 ((xs.length : Int) - 1).toNat).map fun k => ltD (xs.getD (nI k).toNat .non) (xs.getD ((nI k).toNat + 1) .non)) rfl B.all rfl ?_
  refine EV.to (q_lc (x := "k") (i := 1) (ds := upFrom 0 ((xs.length : Int) - 1).toNat) (f := fun k => .bl (ltD (xs.getD (nI k).toNat .non) (xs.getD ((nI k).toNat + 1) .non))) rfl sc_rise.nd
    (i_range1 rfl B.range (AV.mono (DV.n1 (q_sub (q_len rfl B.len (e_slot (pv 0) rfl) rfl) e_int)) fun sl ⟨ds, e, e2⟩ => ⟨ds, e, _, e2, by show (xs.length : Int) - 1 ≤ _; omega, by show _ ≤ (xs.length : Int) - 1; omega, rfl⟩))
    (blkOk_by (N := N_rise) (sc := defScope s_rise) (by decide +kernel)) (fun _ _ _ _ _ => pg_name (i := 1) sc_rise.nd rfl (Or.inl rfl)) ?_ ?_) ?_
  · rw [upFrom_len]; omega
  · intro d hd s H C' cl fp
    unfold upFrom at hd
    obtain ⟨i, hi, rfl⟩ := List.mem_map.mp hd
    have hi' : i + 1 < xs.length := by have := List.mem_range.mp hi; omega
    have e0 : (0 : Int) + (i : Int) = (i : Int) := Int.zero_add _
    have g1 : atI xs ((0 : Int) + (i : Nat)) = some (xs.getD i .non) := by rw [e0]; exact atI_nat (by rw [List.getD_eq_getElem?_getD, List.getElem?_eq_getElem (by omega)]; rfl)
    have g2 : atI xs ((0 : Int) + (i : Nat) + 1) = some (xs.getD (i + 1) .non) := by rw [e0, show (i : Int) + 1 = ((i + 1 : Nat) : Int) by omega]; exact atI_nat (by rw [List.getD_eq_getElem?_getD, List.getElem?_eq_getElem hi']; rfl)
    have m1 : xs.getD i .non ∈ xs := by rw [List.getD_eq_getElem?_getD, List.getElem?_eq_getElem (by omega)]; exact List.getElem_mem _
    have m2 : xs.getD (i + 1) .non ∈ xs := by rw [List.getD_eq_getElem?_getD, List.getElem?_eq_getElem hi']; exact List.getElem_mem _
    have e1 : (nI (.int ((0 : Int) + (i : Nat)))).toNat = i := by show ((0 : Int) + (i : Nat)).toNat = i; omega
    rw [e1]
    rcases ho with ho | ho
    · obtain ⟨x, ex⟩ := ho _ m1
      obtain ⟨y, ey⟩ := ho _ m2
      rw [ex] at g1 ⊢; rw [ey] at g2 ⊢
      exact q_lt (q_ixT (e_slot (pv 0) rfl) (e_slot (pv 1) rfl) g1) (q_ixT (e_slot (pv 0) rfl) (q_add (e_slot (pv 1) rfl) e_int) g2)
    · obtain ⟨x, ex⟩ := ho _ m1
      obtain ⟨y, ey⟩ := ho _ m2
      rw [ex] at g1 ⊢; rw [ey] at g2 ⊢
      exact q_ltS (q_ixT (e_slot (pv 0) rfl) (e_slot (pv 1) rfl) g1) (q_ixT (e_slot (pv 0) rfl) (q_add (e_slot (pv 1) rfl) e_int) g2)
  · rw [List.map_map]; rfl
end
end K

set_option Elab.async false
set_option linter.all false
set_option maxRecDepth 100000
set_option maxHeartbeats 4000000
namespace K
open PySem PySem.Spec PyProof.Rows L2 Evl DL
section
variable {P : Program} {w : World} {K : PySem.W.Frag} {mg : Str → Option Value} {base : Heap}
theorem are_values (h : Df K mg "are_values" s_are_values) (B : Bl mg) (C : Cols K mg) (h1 : Has P w K mg base CX0 "is_word" p_is_word 1 (spF K (det1 (Nice 50) fun d => .bl (isWord d)))) (h2 : Has P w K mg base CX0 "is_whole" p_is_whole 1 (spF K (det3 (fun _ lo hi => isInt lo = true ∧ isBool lo = false ∧ isInt hi = true ∧ isBool hi = false) fun d lo hi => .bl (isWhole d (nI lo) (nI hi)))))
    (h3 : Has P w K mg base CX0 "rise" p_rise 1 (spF K (det1 (fun d => isTup d = true ∧ lenD d ≤ 4000 ∧ Homo (items d)) fun d => .bl (riseL (items d))))) : Has P w K mg base CX0 "are_values" p_are_values 2 (spF K (det1 (Nice 50) fun d => .bl (areValues d))) := by
  refine hasF h sc_are_values bn_are_values (by rintro ds Pf PXf ⟨a, rfl, _⟩; rfl) ?_
  rintro f cdv A outer s H E hr ds Pf PXf ⟨a, rfl, hn, rfl, rfl⟩
  refine ss_ifret (P1 := (· = (!isTup a || !(decide ((1 : Int) ≤ lenD a) && decide ((lenD a : Int) ≤ 8))))) (PX := N0) (t_w (t_or (t_not (t_val (q_isTup rfl B.isinstance rfl B.tuple (e_slot (pv 0) rfl)))) fun hb => t_or1 (t_not (t_chain op_le op_le e_int (q_len rfl B.len (e_slot (pv 0) rfl) (hn.sized (.inr (.inl (by revert hb; cases isTup a <;> simp))))) (q_gint rfl C.values) bin_le fun _ => bin_le)))) (fun hb => ?_) (fun hb => ?_) fun c z => z.elim
  · refine ss_ret (P1 := (· = .bl false)) (PX := N0) e_bl (fun d e => ⟨rfl, ?_⟩) fun c z => z.elim
    exact e.trans (congrArg D.bl (show areValues a = false from ifT hb).symm)
  have hT : isTup a = true := by revert hb; cases isTup a <;> simp
  obtain ⟨xs, rfl⟩ := isTup_of hT
  obtain ⟨hl, hx⟩ := Nice.tup (n := 49) hn
  have hx' : ∀ d ∈ xs, Nice 50 d := fun d hd => (hx d hd).mono (by decide)
  refine ss_ifret (P1 := (· = (!(xs.map isWord).all id && !(xs.map fun x => isWhole x 0 99).all id))) (PX := N0) (t_w (t_and (t_not (t_val (q_all (bs := xs.map isWord) rfl B.all rfl ?_))) fun _ => t_and1 (t_not (t_val (q_all (bs := xs.map fun x => isWhole x 0 99) rfl B.all rfl ?_))))) (fun hc => ?_) (fun hc => ?_) fun c z => z.elim
  · refine EV.to (q_lc (x := "one") (i := 1) (ds := xs) (f := fun d => .bl (isWord d)) rfl sc_are_values.nd (i_tup (P := (· = xs)) (EV.mono (e_slot (pv 0) rfl) fun d e => ⟨xs, e, rfl⟩)) (blkOk_by (N := N_are_values) (sc := defScope s_are_values) (by decide +kernel)) (fun _ _ _ _ _ => pg_name (i := 1) sc_are_values.nd rfl (Or.inl rfl)) (by omega) ?_) ?_
    · intro d hd s H C' cl fp
      exact EV.toB (q_callB1 h1 hr rfl (e_slot (pv 1) rfl) (hx' d hd)) rfl
    · rw [List.map_map]; rfl
  · refine EV.to (q_lc (x := "one") (i := 1) (ds := xs) (f := fun d => .bl (isWhole d 0 99)) rfl sc_are_values.nd (i_tup (P := (· = xs)) (EV.mono (e_slot (pv 0) rfl) fun d e => ⟨xs, e, rfl⟩)) (blkOk_by (N := N_are_values) (sc := defScope s_are_values) (by decide +kernel)) (fun _ _ _ _ _ => pg_name (i := 1) sc_are_values.nd rfl (Or.inl rfl)) (by omega) ?_) ?_
    · intro d hd s H C' cl fp
      exact EV.toB (q_callB3 h2 hr rfl (e_slot (pv 1) rfl) e_int (q_gint rfl C.number) ⟨rfl, rfl, rfl, rfl⟩) rfl
    · rw [List.map_map]; rfl
  · refine ss_ret (P1 := (· = .bl false)) (PX := N0) e_bl (fun d e => ⟨rfl, ?_⟩) fun c z => z.elim
    exact e.trans (congrArg D.bl (show areValues (.tup xs) = false from (ifF hb).trans (ifT hc)).symm)
  · refine ss_ret (P1 := (· = .bl (riseL xs))) (PX := N0) (EV.toB (q_callB1 h3 hr rfl (e_slot (pv 0) rfl) ⟨rfl, hl, homo_of hc.symm⟩) rfl) (fun d e => ?_) fun c z => z.elim
    exact e.trans (congrArg D.bl (show areValues (.tup xs) = riseL xs from (ifF hb).trans (ifF hc)).symm)
theorem is_column (h : Df K mg "is_column" s_is_column) (B : Bl mg) (C : Cols K mg) (h1 : Has P w K mg base CX0 "is_word" p_is_word 1 (spF K (det1 (Nice 50) fun d => .bl (isWord d)))) (h2 : Has P w K mg base CX0 "are_values" p_are_values 2 (spF K (det1 (Nice 50) fun d => .bl (areValues d)))) :
    Has P w K mg base CX0 "is_column" p_is_column 3 (spF K (det1 (Nice 50) fun d => .bl (isColumn d))) := by
  refine hasF h sc_is_column bn_is_column (by rintro ds Pf PXf ⟨a, rfl, _⟩; rfl) ?_
  rintro f cdv A outer s H E hr ds Pf PXf ⟨a, rfl, hn, rfl, rfl⟩
  refine ss_ret (P1 := (· = .bl (isColumn a))) (PX := N0) ?_ (fun d e => e) (fun c z => z.elim)
  refine q_and (q_isTup rfl B.isinstance rfl B.tuple (e_slot (pv 0) rfl)) fun hT => q_and (q_eqI (q_len rfl B.len (e_slot (pv 0) rfl) (hn.sized (.inr (.inl hT)))) e_int) fun hl => ?_
  obtain ⟨xs, rfl⟩ := isTup_of hT
  obtain ⟨_, hx⟩ := Nice.tup (n := 49) hn
  have hl2 : xs.length = 2 := by have := of_decide_eq_true hl; have h3 : ((xs.length : Nat) : Int) = 2 := this; omega
  refine q_and (q_callB1 h1 (hr.mono (by decide)) rfl (q_ixT (e_slot (pv 0) rfl) e_int (atI_getD (i := 0) (by omega))) ((hx _ (getD_mem (by omega))).mono (by decide))) fun _ => q_one (q_callB1 h2 hr rfl (q_ixT (e_slot (pv 0) rfl) e_int (atI_getD (i := 1) (by omega))) ((hx _ (getD_mem (by omega))).mono (by decide)))
end
end K

set_option Elab.async false
set_option linter.all false
set_option maxRecDepth 100000
set_option maxHeartbeats 4000000
namespace K
open PySem PySem.Spec PyProof.Rows L2 Evl DL
section
variable {P : Program} {w : World} {K : PySem.W.Frag} {mg : Str → Option Value} {base : Heap}
theorem are_columns (h : Df K mg "are_columns" s_are_columns) (B : Bl mg) (C : Cols K mg) (h1 : Has P w K mg base CX0 "is_column" p_is_column 3 (spF K (det1 (Nice 50) fun d => .bl (isColumn d)))) :
    Has P w K mg base CX0 "are_columns" p_are_columns 4 (spF K (det1 (Nice 50) fun d => .bl (areColumns d))) := by
  refine hasF h sc_are_columns bn_are_columns (by rintro ds Pf PXf ⟨a, rfl, _⟩; rfl) ?_
  rintro f cdv A outer s H E hr ds Pf PXf ⟨a, rfl, hn, rfl, rfl⟩
  refine ss_ifret (P1 := (· = (!isTup a || !(decide ((1 : Int) ≤ lenD a) && decide ((lenD a : Int) ≤ 3))))) (PX := N0) (t_w (t_or (t_not (t_val (q_isTup rfl B.isinstance rfl B.tuple (e_slot (pv 0) rfl)))) fun hb => t_or1 (t_not (t_chain op_le op_le e_int (q_len rfl B.len (e_slot (pv 0) rfl) (hn.sized (.inr (.inl (by revert hb; cases isTup a <;> simp))))) (q_gint rfl C.columns) bin_le fun _ => bin_le)))) (fun hb => ?_) (fun hb => ?_) fun c z => z.elim
  · refine ss_ret (P1 := (· = .bl false)) (PX := N0) e_bl (fun d e => ⟨rfl, ?_⟩) fun c z => z.elim
    exact e.trans (congrArg D.bl (show areColumns a = false from ifT hb).symm)
  have hT : isTup a = true := by revert hb; cases isTup a <;> simp
  obtain ⟨xs, rfl⟩ := isTup_of hT
  obtain ⟨hl, hx⟩ := Nice.tup (n := 49) hn
  have hx' : ∀ d ∈ xs, Nice 50 d := fun d hd => (hx d hd).mono (by decide)
  refine ss_ifret (P1 := (· = (!(xs.map isColumn).all id))) (PX := N0) (t_not (t_val (q_all (bs := xs.map isColumn) rfl B.all rfl ?_))) (fun hc => ?_) (fun hc => ?_) fun c z => z.elim
  · refine EV.to (q_lc (x := "one") (i := 1) (ds := xs) (f := fun d => .bl (isColumn d)) rfl sc_are_columns.nd (i_tup (P := (· = xs)) (EV.mono (e_slot (pv 0) rfl) fun d e => ⟨xs, e, rfl⟩)) (blkOk_by (N := N_are_columns) (sc := defScope s_are_columns) (by decide +kernel)) (fun _ _ _ _ _ => pg_name (i := 1) sc_are_columns.nd rfl (Or.inl rfl)) (by omega) ?_) ?_
    · intro d hd s H C' cl fp
      exact EV.toB (q_callB1 h1 hr rfl (e_slot (pv 1) rfl) (hx' d hd)) rfl
    · rw [List.map_map]; rfl
  · refine ss_ret (P1 := (· = .bl false)) (PX := N0) e_bl (fun d e => ⟨rfl, ?_⟩) fun c z => z.elim
    exact e.trans (congrArg D.bl (show areColumns (.tup xs) = false from (ifF hb).trans (ifT hc)).symm)
  have hcol : ∀ d ∈ xs, isColumn d = true := by
    have : (xs.map isColumn).all id = true := by revert hc; cases (xs.map isColumn).all id <;> simp
    rw [List.all_map, List.all_eq_true] at this
    exact fun d hd => this d hd
  refine ss_ret (P1 := (· = .bl (areColumns (.tup xs)))) (PX := N0) ?_ (fun d e => e) fun c z => z.elim
  refine EV.toB (q_eqI (q_lenSet (ds := xs.map fun x => itemD x 0) (ks := xs.map fun x => keyOf (itemD x 0)) rfl B.len rfl B.set rfl ?_ ?_ (by rw [List.length_map]; exact hl)) (q_len rfl B.len (e_slot (pv 0) rfl) rfl)) (show areColumns (.tup xs) = _ from (ifF hb).trans (ifF hc)).symm
  · refine q_lc (x := "one") (i := 1) (ds := xs) (f := fun d => itemD d 0) rfl sc_are_columns.nd (i_tup (P := (· = xs)) (EV.mono (e_slot (pv 0) rfl) fun d e => ⟨xs, e, rfl⟩)) (blkOk_by (N := N_are_columns) (sc := defScope s_are_columns) (by decide +kernel)) (fun _ _ _ _ _ => pg_name (i := 1) sc_are_columns.nd rfl (Or.inl rfl)) (by omega) ?_
    intro d hd s H C' cl fp
    have hc1 := hcol d hd
    unfold isColumn at hc1
    rw [Bool.and_eq_true, Bool.and_eq_true] at hc1
    obtain ⟨ys, rfl⟩ := isTup_of hc1.1
    have h2 : ((ys.length : Nat) : Int) = 2 := of_decide_eq_true hc1.2.1
    exact q_ixT (e_slot (pv 1) rfl) e_int (atI_getD (i := 0) (by omega))
  · rw [List.map_map, List.map_map]
    refine List.map_congr_left fun d hd => ?_
    have hc1 := hcol d hd
    unfold isColumn at hc1
    rw [Bool.and_eq_true, Bool.and_eq_true, Bool.and_eq_true] at hc1
    obtain ⟨z, hz⟩ := word_str hc1.2.2.1
    show keyD (itemD d 0) = some (keyOf (itemD d 0))
    rw [hz]; rfl
theorem spot_of (h : Df K mg "spot_of" s_spot_of) (B : Bl mg) :
    Has P w K mg base CX0 "spot_of" p_spot_of 1 (spF K fun ds Pf PXf => ∃ cs x, ds = [colsD cs, .str x] ∧ (∃ c ∈ cs, c.1 = x) ∧ cs.length ≤ 4000 ∧ Pf = (· = .int (spotOf cs x)) ∧ PXf = N0) := by
  refine hasF h sc_spot_of bn_spot_of (by rintro ds Pf PXf ⟨cs, x, rfl, _⟩; rfl) ?_
  rintro f cdv A outer s H E hr ds Pf PXf ⟨cs, x, rfl, ⟨c0, hc0, hx0⟩, hl, rfl, rfl⟩
  refine ss_for (PX := N0) (Pd := (· = enumD (cs.map colD))) (asg := as2 2 3) (passes_of rfl) rfl (i_enumT rfl B.enumerate (e_slot (pv 0) rfl)) (pg_tup rfl (pgs_cons (pg_name (i := 2) sc_spot_of.nd rfl (.inl rfl)) (pgs_cons (pg_name (i := 3) sc_spot_of.nd rfl (.inl rfl)) pgs_nil))) (tg2 (by decide)) ?_ (fun c z => z.elim)
  rintro _ rfl
  have hel : (enumD (cs.map colD)).length = cs.length := by unfold enumD pairsD; simp [upFrom_len]
  have hget : ∀ i (hi : i < cs.length), (enumD (cs.map colD))[i]? = some (.tup [.int ((0 : Int) + (i : Nat)), colD cs[i]]) := fun i hi =>
    pairs_get (upFrom_get (by rw [List.length_map]; exact hi)) (by rw [List.getElem?_map, List.getElem?_eq_getElem hi]; rfl)
  refine Loop.ind (fun n env M => (∀ j (hj : j < n) (hj2 : j < cs.length), cs[j].1 ≠ x) ∧ ∃ s2 s3, env = [.dat (colsD cs), .dat (.str x), s2, s3] ∧ M = []) ⟨fun j hj => by omega, .un, .un, rfl, rfl⟩ ?_ ?_
  · rintro env M ⟨hno, _⟩
    exfalso
    obtain ⟨i, hi, e⟩ := List.mem_iff_getElem.mp hc0
    exact hno i (by rw [hel]; exact hi) hi (by rw [e]; exact hx0)
  · rintro n d hd _ _ ⟨hno, s2, s3, rfl, rfl⟩
    have hlt : n < cs.length := by rw [← hel]; exact (List.getElem?_eq_some_iff.mp hd).1
    rw [hget n hlt] at hd
    cases hd
    refine ⟨_, ⟨_, _, rfl, rfl⟩, ?_⟩
    refine ss_ifret (P1 := (· = decide (cs[n].1 = x))) (PX := N0) ?_ (fun hb => ?_) (fun hb => ?_) fun c z => z.elim
    · refine BV.to (t_eqS (db := .str x) (q_ixT (d := .str cs[n].1) (e_slot (pv 3) rfl) e_int (atI_nat (j := 0) rfl)) (e_slot (pv 1) rfl) rfl) rfl
    · refine ss_ret (P1 := (· = .int ((0 : Int) + (n : Nat)))) (PX := N0) (e_slot (pv 2) rfl) (fun d e => ⟨rfl, ?_⟩) fun c z => z.elim
      show d = .int (spotOf cs x)
      have : spotOf cs x = n := by
        unfold spotOf
        exact (List.findIdx_eq hlt).mpr ⟨hb.symm, fun j hj => decide_eq_false (hno j hj (by omega))⟩
      rw [e, this, Int.zero_add]
    · refine ss_nil ⟨fun j hj hj2 => ?_, _, _, rfl, rfl⟩
      by_cases e : j = n
      · subst e; exact of_decide_eq_false hb.symm
      · exact hno j (by omega) hj2
theorem values_of (h : Df K mg "values_of" s_values_of) (h1 : Has P w K mg base CX0 "spot_of" p_spot_of 1 (spF K fun ds Pf PXf => ∃ cs x, ds = [colsD cs, .str x] ∧ (∃ c ∈ cs, c.1 = x) ∧ cs.length ≤ 4000 ∧ Pf = (· = .int (spotOf cs x)) ∧ PXf = N0)) :
    Has P w K mg base CX0 "values_of" p_values_of 2 (spF K fun ds Pf PXf => ∃ cs x, ds = [colsD cs, .str x] ∧ (∃ c ∈ cs, c.1 = x) ∧ cs.length ≤ 4000 ∧ Pf = (· = .tup (valsOf cs x)) ∧ PXf = N0) := by
  refine hasF h sc_values_of bn_values_of (by rintro ds Pf PXf ⟨cs, x, rfl, _⟩; rfl) ?_
  rintro f cdv A outer s H E hr ds Pf PXf ⟨cs, x, rfl, hx, hl, rfl, rfl⟩
  have hi : spotOf cs x < cs.length := by
    obtain ⟨c0, hc0, e⟩ := hx
    unfold spotOf
    exact List.findIdx_lt_length_of_exists ⟨c0, hc0, decide_eq_true e⟩
  refine ss_ret (P1 := (· = .tup (valsOf cs x))) (PX := N0) ?_ (fun d e => e) fun c z => z.elim
  refine q_ixT (ds := [.str (cs[spotOf cs x]).1, .tup (valsOf cs x)]) (q_ixT (e_slot (pv 0) rfl) (e_call0 h1 hr rfl (DV.n2 (e_slot (pv 0) rfl) (e_slot (pv 1) rfl)) fun sl ⟨ds, e, e2⟩ => ⟨ds, _, e, ⟨cs, x, e2, hx, hl, rfl, rfl⟩, fun d q => q⟩) (atI_nat ?_)) e_int (atI_nat (j := 1) rfl)
  rw [List.getElem?_map, List.getElem?_eq_getElem hi]
  show some (colD _) = _
  unfold colD valsOf
  rw [List.getD_eq_getElem?_getD, List.getElem?_eq_getElem hi]
  rfl
abbrev RVal (ds : List D) (Pf : D → Prop) (PXf : Value → Prop) : Prop := ∃ cs x v, ds = [colsD cs, .str x, v] ∧ (∃ c ∈ cs, c.1 = x) ∧ Fit cs ∧ Pf = (· = .bl (isValueL (valsOf cs x) v)) ∧ PXf = N0
theorem is_value (h : Df K mg "is_value" s_is_value) (B : Bl mg) (h1 : Has P w K mg base CX0 "values_of" p_values_of 2 (spF K fun ds Pf PXf => ∃ cs x, ds = [colsD cs, .str x] ∧ (∃ c ∈ cs, c.1 = x) ∧ cs.length ≤ 4000 ∧ Pf = (· = .tup (valsOf cs x)) ∧ PXf = N0)) :
    Has P w K mg base CX0 "is_value" p_is_value 3 (spF K RVal) := by
  refine hasF h sc_is_value bn_is_value (by rintro ds Pf PXf ⟨cs, x, v, rfl, _⟩; rfl) ?_
  rintro f cdv A outer s H E hr ds Pf PXf ⟨cs, x, v, rfl, hx, hf, rfl, rfl⟩
  have hi : spotOf cs x < cs.length := by
    obtain ⟨c0, hc0, e⟩ := hx
    unfold spotOf
    exact List.findIdx_lt_length_of_exists ⟨c0, hc0, decide_eq_true e⟩
  refine ss_ifret (P1 := (· = (isBool v || !(DL.isInt v || isStr v)))) (PX := N0) (t_w (t_or (t_val (q_isBool rfl B.isinstance rfl B.bool (e_slot (pv 2) rfl))) fun _ => t_or1 (t_not (t_val (e_isi2 (P := (· = .bl (DL.isInt v || isStr v))) (P1 := (· = v)) rfl B.isinstance rfl B.int boot_int kit_int rfl B.str boot_str kit_str (e_slot (pv 2) rfl) fun d e => by rw [e]))))) (fun hb => ?_) (fun hb => ?_) fun c z => z.elim
  · refine ss_ret (P1 := (· = .bl false)) (PX := N0) e_bl (fun d e => ⟨rfl, ?_⟩) fun c z => z.elim
    exact e.trans (congrArg D.bl (show isValueL (valsOf cs x) v = false from ifT hb).symm)
  · refine ss_ret (P1 := (· = .bl (isValueL (valsOf cs x) v))) (PX := N0) ?_ (fun d e => e) fun c z => z.elim
    refine EV.toB (q_cmp op_in_seq (e_slot (pv 2) rfl) (e_call0 (P := (· = .tup (valsOf cs x))) h1 hr rfl (DV.n2 (e_slot (pv 0) rfl) (e_slot (pv 1) rfl)) fun sl ⟨ds, e, e2⟩ => ⟨ds, _, e, ⟨cs, x, e2, hx, by have := hf.few; omega, rfl, rfl⟩, fun d q => q⟩) rfl (bin_inT ?_ ?_ rfl)) (show isValueL (valsOf cs x) v = _ from ifF hb).symm
    · cases v <;> first | rfl | (exfalso; revert hb; simp [isBool, DL.isInt, isStr]; done)
    · unfold valsOf
      rw [List.getD_eq_getElem?_getD, List.getElem?_eq_getElem hi]
      exact hf.flat _ (List.getElem_mem _)
end
end K

set_option Elab.async false
set_option linter.all false
set_option maxRecDepth 100000
set_option maxHeartbeats 4000000
namespace DL
open PySem PySem.Spec PyProof.Rows L2 Evl
/-! numbers of which bounds are known; the well; join -/
/-- an expression whose value is a number of C -/
abbrev IE (X : Cx) (E : WK) (env : List Slot) (M : List MO) (e : Expr) (C : Int → Prop) (PX : Value → Prop) : Prop := EV X E env M e (fun d => ∃ i, d = .int i ∧ C i) PX
section
variable {X : Cx} {E : WK} {env : List Slot} {M : List MO} {PX : Value → Prop} {a b c e : Expr} {es : List Expr} {rest : List Stmt} {pos p p2 pos' apos cpos : Pos} {d : D} {P : Out → Prop} {x : Str} {i : Int} {j k : Nat} {Ca Cb C : Int → Prop}
theorem IE.of (h : EV X E env M e (· = .int i) PX) (hc : C i) : IE X E env M e C PX := h.mono fun d q => ⟨i, q, hc⟩
theorem IE.mono (h : IE X E env M e Ca PX) (w : ∀ i, Ca i → C i) : IE X E env M e C PX := EV.mono h fun d ⟨i, q, c⟩ => ⟨i, q, w i c⟩
theorem i_int {t : Tok} (hc : C i) : IE X E env M (.Constant (.int i) t pos) C PX := IE.of e_int hc
theorem i_op {op : Operator} {R : Int → Int → Prop} {g : Int → Int → Int} (ho : OpR X (binaryOp op) (rI R fun i j => .int (g i j))) (ha : IE X E env M a Ca PX) (hb : IE X E env M b Cb PX) (h : ∀ i j, Ca i → Cb j → R i j ∧ C (g i j)) : IE X E env M (.BinOp a op b pos) C PX :=
  e_op ho ha hb fun _ _ ⟨i, e1, c1⟩ ⟨j, e2, c2⟩ => by subst e1 e2; exact bin_I (d := .int (g i j)) (h i j c1 c2).1 (fun _ => rfl) ⟨_, rfl, (h i j c1 c2).2⟩
theorem i_op0 {op : Operator} {g : Int → Int → Int} (ho : OpR X (binaryOp op) (rI0 fun i j => .int (g i j))) (ha : IE X E env M a Ca PX) (hb : IE X E env M b Cb PX) (h : ∀ i j, Ca i → Cb j → C (g i j)) : IE X E env M (.BinOp a op b pos) C PX :=
  e_op ho ha hb fun _ _ ⟨i, e1, c1⟩ ⟨j, e2, c2⟩ => by subst e1 e2; exact bin_I0 (d := .int (g i j)) (fun _ => rfl) ⟨_, rfl, h i j c1 c2⟩
theorem i_add (ha : IE X E env M a Ca PX) (hb : IE X E env M b Cb PX) (h : ∀ i j, Ca i → Cb j → C (i + j)) : IE X E env M (.BinOp a .Add b pos) C PX := i_op0 op_add ha hb h
theorem i_sub (ha : IE X E env M a Ca PX) (hb : IE X E env M b Cb PX) (h : ∀ i j, Ca i → Cb j → C (i - j)) : IE X E env M (.BinOp a .Sub b pos) C PX := i_op0 op_sub ha hb h
theorem i_mul (ha : IE X E env M a Ca PX) (hb : IE X E env M b Cb PX) (h : ∀ i j, Ca i → Cb j → CMul i j ∧ C (i * j)) : IE X E env M (.BinOp a .Mult b pos) C PX := i_op op_mul ha hb h
theorem i_mod (ha : IE X E env M a Ca PX) (hb : IE X E env M b Cb PX) (h : ∀ i j, Ca i → Cb j → 0 < j ∧ C (i % j)) : IE X E env M (.BinOp a .Mod b pos) C PX := i_op op_mod ha hb h
theorem i_div (ha : IE X E env M a Ca PX) (hb : IE X E env M b Cb PX) (h : ∀ i j, Ca i → Cb j → CDiv i j ∧ C (i / j)) : IE X E env M (.BinOp a .FloorDiv b pos) C PX := i_op op_fdiv ha hb h
theorem i_pow (ha : IE X E env M a Ca PX) (hb : IE X E env M b Cb PX) (h : ∀ i j, Ca i → Cb j → CPow i j ∧ C (i ^ j.toNat)) : IE X E env M (.BinOp a .Pow b pos) C PX := i_op op_pow ha hb h
/-- a test by numbers, told by what it means -/
theorem i_cmp {op : CmpOp} {g : Int → Int → Bool} {P1 : Bool → Prop} (ho : OpR X (compareOp op) (rI0 fun i j => .bl (g i j))) (ha : IE X E env M a Ca PX) (hb : IE X E env M b Cb PX) (hm : behindInMarks op b = false) (h : ∀ i j, Ca i → Cb j → P1 (g i j)) : BV X E env M (.Compare a [op] [b] pos) P1 PX :=
  b_cmp ho ha hb hm fun _ _ ⟨i, e1, c1⟩ ⟨j, e2, c2⟩ => by subst e1 e2; exact bin_I0 (d := .bl (g i j)) (fun _ => rfl) ⟨_, rfl, h i j c1 c2⟩

/-! ### the well -/
def WellC (n : Nat) (i : Int) : Prop := if n = 0 then True else if n = 1 then 0 ≤ i ∧ i < 4294967296 else 0 < i ∧ i < 4294967296
theorem e_well {n : Nat} {t : Tok} {p3 : Pos} (ha : XV X E env M a (.ptr k) PX) (hm : M[k]? = some .well) (hn : n < 3) : IE X E env M (.Subscript a (.Constant (.int (n : Int)) t p3) pos) (WellC n) PX :=
  PE.imp (pe_ix ix_list ha (e_int (E := E) (env := env) (M := M) (PX := PX)) (fun _ _ => rfl)) fun σ H Q ⟨S, as, ok, en, kk, x⟩ => ⟨S, as, ok, en, fun v S1 H1 p1 ok1 r1 => by
    refine ⟨S1, as, ok1, en.ex p1.ex, fun d2 u S2 H2 e2 p2 ok2 r2 => ?_, fun c S2 H2 pc p2 => x c S2 H2 pc (p1.trans p2)⟩
    subst e2
    obtain rfl : u = .int n := r2
    obtain ⟨q, hq, e1⟩ := r1
    cases e1
    obtain ⟨b, hb, hS, x0, y0, c0, hv, y1, y2, c1, c2⟩ := ok2.own.get hm
    obtain rfl : b = q := Option.some.inj (hb.symm.trans hq)
    match n, hn with
    | 0, _ => exact ⟨b, _, _, .int x0, rfl, rfl, sq_of hv, rfl, kk (.int x0) _ S2 H2 ⟨_, rfl, trivial⟩ (p1.trans p2) ok2 rfl⟩
    | 1, _ => exact ⟨b, _, _, .int y0, rfl, rfl, sq_of hv, rfl, kk (.int y0) _ S2 H2 ⟨_, rfl, y1, y2⟩ (p1.trans p2) ok2 rfl⟩
    | 2, _ => exact ⟨b, _, _, .int c0, rfl, rfl, sq_of hv, rfl, kk (.int c0) _ S2 H2 ⟨_, rfl, c1, c2⟩ (p1.trans p2) ok2 rfl⟩, x⟩
theorem set_self {α : Type} {l : List α} {k : Nat} {m : α} (h : l[k]? = some m) : l.set k m = l := by
  obtain ⟨hk, e⟩ := List.getElem?_eq_some_iff.mp h
  rw [← e, List.set_getElem_self]
/-- well[n] = e -/
theorem ss_setW {n : Nat} {t : Tok} {p3 : Pos} {i : Nat} {o : Expr} {tpos : Pos} (h : PE X o (tVar i)) (hei : env[i]? = some (.ptr k)) (hm : M[k]? = some .well) (hn : n < 3) (hv : IE X E env M e (WellC n) PX) (hr : BS X E env M rest P) (hx : ∀ c, PX c → P (.xx c env M))
    (ha : ∀ v, assign (.Subscript o (.Constant (.int (n : Int)) t p3) tpos) X.env v = (do
      let ov ← holding [v] (eval o X.env)
      let iv ← holding [v, ov] (eval (.Constant (.int (n : Int)) t p3) X.env)
      standAt tpos
      holding [v, ov, iv] (setItem ov iv v)
      release [v, ov, iv] []) := by intro _; rfl) (hs : swapsWithSole [.Subscript o (.Constant (.int (n : Int)) t p3) tpos] e pos.line X.env = pure false := by rfl) (hw : swappedStores [.Subscript o (.Constant (.int (n : Int)) t p3) tpos] e X.env = pure none := by rfl)
    (h1 : (assignEach [.Subscript o (.Constant (.int (n : Int)) t p3) tpos] X.env).map (·.2) = [assign (.Subscript o (.Constant (.int (n : Int)) t p3) tpos) X.env] := by rfl) : BS X E env M (.Assign [.Subscript o (.Constant (.int (n : Int)) t p3) tpos] e pos :: rest) P := by
  refine ss_cons (P1 := fun o => (o = .nx env M) ∨ ∃ c, PX c ∧ o = .xx c env M) (PS.imp (ps_asg hv (pg_sub h (e_int (E := E) (env := env) (M := M) (PX := PX)) set_list ha) hs hw h1) fun Dn σ H ⟨S, as, ok, en, kk⟩ => ⟨S, as, ok, en, fun d v S2 H2 pd p2 ok2 r => ?_, fun c S2 H2 p p2 ok2 => (kk _ (.inr ⟨c, p, rfl⟩)).exc p2 ok2 (en.ex p2.ex)⟩) ?_ ?_
  · obtain ⟨o1, ho, s⟩ := en.get hei
    obtain ⟨q, hq, rfl⟩ := s
    refine ⟨_, ho, S2, as, ok2, en.ex p2.ex, fun d2 u S3 H3 e3 p3 ok3 r3 => ?_, fun c S3 H3 p p3 ok3 => (kk _ (.inr ⟨c, p, rfl⟩)).exc (p2.trans p3) ok3 (en.ex (p2.trans p3).ex)⟩
    subst e3
    obtain rfl : u = .int n := r3
    obtain ⟨z, rfl, zc⟩ := pd
    obtain rfl : v = .int z := r
    obtain ⟨b, hb, hS, x0, y0, c0, hv0, y1, y2, c1, c2⟩ := ok3.own.get hm
    obtain rfl : b = q := Option.some.inj (hb.symm.trans hq)
    have fin : ∀ xs : List V, HasO X.K S3 (upd H3 b (.lst xs)) b .well → Dn.nx σ (upd H3 b (.lst xs)) := fun xs hh => by
      obtain ⟨ok4, p4⟩ := ok3.mut (m := .well) hq hS hh
      rw [set_self hm] at ok4
      exact (kk _ (.inl rfl)).go ((p2.trans p3).trans p4) ok4 (en.ex ((p2.trans p3).trans p4).ex)
    match n, hn, zc with
    | 0, _, zc => exact ⟨b, _, _, 0, rfl, rfl, hv0, rfl, fin _ ⟨hS, z, y0, c0, upd_same, y1, y2, c1, c2⟩⟩
    | 1, _, zc => exact ⟨b, _, _, 1, rfl, rfl, hv0, rfl, fin _ ⟨hS, x0, z, c0, upd_same, zc.1, zc.2, c1, c2⟩⟩
    | 2, _, zc => exact ⟨b, _, _, 2, rfl, rfl, hv0, rfl, fin _ ⟨hS, x0, y0, z, upd_same, y1, y2, zc.1, zc.2⟩⟩
  · rintro env1 M1 (e1 | ⟨c, _, e1⟩)
    · cases e1; exact hr
    · cases e1
  · rintro o (rfl | ⟨c, p, rfl⟩) hn'
    · cases hn'
    · exact hx c p
/-- a new list of three numbers: a well -/
theorem NV.well (h : NV X E env M e (fun m => ∃ x y c : Int, m = .ml [.int x, .int y, .int c] ∧ (0 ≤ y ∧ y < 4294967296) ∧ 0 < c ∧ c < 4294967296) PX) : NV X E env M e (· = .well) PX :=
  PE.imp h fun σ H Q ⟨S, as, ok, en, kk, x⟩ => ⟨S, as, ok, en, fun m p S2 H2 pm p2 hp ok2 => by
    obtain ⟨x0, y0, c0, rfl, ⟨y1, y2⟩, c1, c2⟩ := pm
    obtain ⟨ok3, hS, vs, hv, r⟩ := ok2.init ok.own.length
    have hn := (List.nodup_append.mp ok2.nd).2.2
    have hpn : p ∉ as := fun z => hn p z p List.mem_cons_self rfl
    obtain ⟨v1, t1, rfl, r1, v2, t2, rfl, r2, v3, t3, rfl, r3, rfl⟩ := r
    obtain rfl : v1 = .int x0 := r1
    obtain rfl : v2 = .int y0 := r2
    obtain rfl : v3 = .int c0 := r3
    exact kk .well p S2 H2 rfl p2 hp (ok3.snoc hpn ⟨hS, x0, y0, c0, hv, y1, y2, c1, c2⟩), x⟩
/-- return of a new object -/
theorem ss_retV {P1 : MO → Prop} (h : NV X E env M e P1 PX) (hp : ∀ m, P1 m → P (.rn M.length (M ++ [m]))) (hx : ∀ c, PX c → P (.xx c env M)) : BS X E env M (.Return (some e) pos :: rest) P := by
  refine ss_cons (P1 := fun o => o.isNx = false ∧ P o) (PS.imp (ps_ret h) fun Dn σ H ⟨S, as, ok, en, k⟩ => ⟨S, as, ok, en, fun m p S2 H2 pm p2 hp0 ok2 => ?_, fun c S2 H2 p p2 ok2 => ?_⟩) (fun _ _ z => nomatch z.1) fun o z _ => z.2
  · refine (k _ ⟨rfl, hp m pm⟩) p S2 [p] H2 p2 (fun a ha => by rw [List.mem_singleton.mp ha]; exact hp0) ok2 ?_
    rw [← ok.own.length]; simp
  · exact (k _ ⟨rfl, hx c p⟩).exc p2 ok2 (en.ex p2.ex)
/-- "".join(xs) -/
theorem RepL.strs {K : PySem.W.Frag} {S : Hp} : ∀ {zs : List Str} {vs : List V}, RepL K S (zs.map .str) vs → vs = zs.map V.str
  | [], _, h => h
  | _ :: zs, _, ⟨v, t, e, r, h⟩ => by rw [e, RepL.strs h, show v = _ from r]; rfl
theorem e_join {s : Str} {Pz : List Str → Prop} {Pd : D → Prop} {o : Expr} (ho : EV X E env M o (· = .str s) PX) (ha : EV X E env M a (fun d => ∃ zs : List Str, d = .lst (zs.map .str) ∧ Pz zs) PX) (h : ∀ zs, Pz zs → (zs.map (·.length)).sum + zs.length * s.length ≤ 16777216 ∧ Pd (.str (Txt.join s zs)))
    (hs : starEach [a] X.env = [(false, eval a X.env)] := by rfl) (hbase : attributeBase o "join" X.env (eval o X.env) = eval o X.env := by rfl) (hline : (apos.endLine == cpos.line) = true := by rfl) : EV X E env M (.Call (.Attribute o "join" apos) [a] [] cpos) Pd PX :=
  PE.imp (pe_join ho ha hs hbase hline) fun σ H Q ⟨S, as, ok, en, kk, x⟩ => ⟨S, as, ok, en, fun d v S1 H1 pd p1 ok1 r1 => by
    subst pd
    obtain rfl : v = .str s := r1
    refine ⟨⟨s, rfl⟩, S1, as, ok1, en.ex p1.ex, fun d2 u S2 H2 pd p2 ok2 r2 => ?_, fun c S2 H2 pc p2 => x c S2 H2 pc (p1.trans p2)⟩
    obtain ⟨zs, rfl, pz⟩ := pd
    obtain ⟨b, vs, rfl, hv, rl⟩ := r2
    obtain rfl := RepL.strs rl
    exact ⟨s, b, zs, rfl, rfl, .inl (ex_l ok2.ex hv), (h zs pz).1, kk _ _ S2 H2 (h zs pz).2 (p1.trans p2) ok2 rfl⟩, x⟩
end
end DL

set_option Elab.async false
set_option linter.all false
set_option maxRecDepth 100000
set_option maxHeartbeats 4000000
namespace DL
open PySem PySem.Spec PyProof.Rows L2 Evl
def rowD (r : List D) : D := .tup r
def longer (rows : List (List D)) (vals : List D) : List (List D) := rows.flatMap fun row => vals.map fun v => row ++ [v]
theorem allRows_take {cs : List Cl} {n : Nat} (h : n < cs.length) : allRows (cs.take (n + 1)) = longer (allRows (cs.take n)) cs[n].2 := by
  unfold allRows longer
  rw [List.take_succ_eq_append_getElem h, List.foldl_append]
  rfl
theorem longer_take {rows : List (List D)} {vals : List D} {n : Nat} (h : n < rows.length) : longer (rows.take (n + 1)) vals = longer (rows.take n) vals ++ vals.map fun v => rows[n] ++ [v] := by
  unfold longer
  rw [List.take_succ_eq_append_getElem h, List.flatMap_append]
  simp
theorem longer_len (rows : List (List D)) (vals : List D) : (longer rows vals).length = rows.length * vals.length := by
  unfold longer
  induction rows with
  | nil => simp
  | cons r t ih => rw [List.flatMap_cons, List.length_append, List.length_map, ih, List.length_cons, Nat.succ_mul, Nat.add_comm]
theorem longer_mem {rows : List (List D)} {vals : List D} {m : Nat} (h : ∀ r ∈ rows, r.length = m) : ∀ r ∈ longer rows vals, r.length = m + 1 := by
  intro r hr
  unfold longer at hr
  obtain ⟨a, ha, hb⟩ := List.mem_flatMap.mp hr
  obtain ⟨v, _, rfl⟩ := List.mem_map.mp hb
  rw [List.length_append, h a ha]; rfl
theorem Fit.rows {cs : List Cl} (f : Fit cs) (n : Nat) (hn : n ≤ cs.length) : (allRows (cs.take n)).length ≤ 8 ^ n ∧ ∀ r ∈ allRows (cs.take n), r.length = n := by
  induction n with
  | zero => exact ⟨Nat.le_refl _, fun r hr => by rw [List.mem_singleton.mp hr]; rfl⟩
  | succ n ih =>
    obtain ⟨a, b⟩ := ih (by omega)
    rw [allRows_take hn]
    refine ⟨?_, longer_mem b⟩
    rw [longer_len, Nat.pow_succ]
    exact Nat.mul_le_mul a (f.short _ (List.getElem_mem _))
theorem pow8 {n : Nat} (h : n ≤ 3) : 8 ^ n ≤ 512 := by
  have : 8 ^ n ≤ 8 ^ 3 := Nat.pow_le_pow_right (by decide) h
  simpa using this
theorem n_lcD {X : Cx} {E : WK} {env : List Slot} {M : List MO} {PX : Value → Prop} {pos : Pos} {elt tg iter : Expr} {scope : Scope} {x : Str} {i : Nat} {ds : List D} {f : D → D} (hc : X.calm = true) (hN : X.N.Nodup) (hi : IV X E env M tg iter (· = ds) PX) (ok : BlkOk X.N X.env.scope scope [(x, i)]) (hg : ∀ (s : Shared) (H : Hp) (C : Addr) (cl : List (Str × Addr)) (fp : List Addr), PG (X.blk s H scope (compEnvC scope cl C X.env) fp) tg (gName i))
    (hl : ds.length ≤ 100000) (he : ∀ d ∈ ds, ∀ (s : Shared) (H : Hp) (C : Addr) (cl : List (Str × Addr)) (fp : List Addr), EV (X.blk s H scope (compEnvC scope cl C X.env) fp) E00 ((wipeE env [i]).set i (.dat d)) M elt (· = f d) N0) (hs : ∀ x, foldedSetIterable iter X.env x = pure x := by intro _; rfl) :
    NV X E env M (.ListComp elt [⟨tg, iter, [], 0⟩] scope pos) (· = .ml (ds.map f)) PX :=
  n_lc (Pt := fun _ b => b = true) (Pe := fun d r => r = f d) hc hN hi ok hg tg1
    ⟨fun _ d _ _ => ⟨_, rfl⟩, fun ds' e => by rw [e]; exact hl, fun ds' d env' e hm _ ha s H C cl fp => by subst ha; exact he d (e ▸ hm) s H C cl fp, fun _ _ _ _ _ _ _ _ _ _ _ => ts_nil rfl⟩ (fun ds' rs e h => by rw [h.map, e]) hs
/-- t + (x,) -/
theorem q_row {X : Cx} {E : WK} {env : List Slot} {M : List MO} {PX : Value → Prop} {a b : Expr} {pos : Pos} {ds es : List D} (ha : EV X E env M a (· = .tup ds) PX) (hb : EV X E env M b (· = .tup es) PX) (hl : ds.length + es.length ≤ 100000) : EV X E env M (.BinOp a .Add b pos) (· = .tup (ds ++ es)) PX :=
  q_op op_catA ha hb (bin_cat hl rfl)
end DL
namespace K
open PySem PySem.Spec PyProof.Rows L2 Evl DL
section
variable {P : Program} {w : World} {K : PySem.W.Frag} {mg : Str → Option Value} {base : Heap}
abbrev RRows (ds : List D) (Pf : MO → Prop) : Prop := ∃ cs, ds = [colsD cs] ∧ Fit cs ∧ Pf = (· = .ml ((allRows cs).map rowD))
theorem all_rows (h : Df K mg "all_rows" s_all_rows) : Has P w K mg base CX0 "all_rows" p_all_rows 1 (spN K RRows) := by
  refine hasN h sc_all_rows bn_all_rows (by rintro ds Pf ⟨cs, rfl, _⟩; rfl) ?_
  rintro f cdv A outer s H E hr ds Pf ⟨cs, rfl, hf, rfl⟩
  have nd := sc_all_rows.nd
  refine ss_setN (i := 1) (PX := N0) nd rfl (.inl rfl) (n_lstD (ds := [.tup []]) (DV.n1 q_tup0) (by decide)) ?_ fun c z => z.elim
  rintro _ rfl
  refine ss_for (PX := N0) (Pd := (· = cs.map colD)) (asg := as2 2 3) (passes_of rfl) rfl (i_tup (EV.mono (e_slot (pv 0) rfl) fun d e => ⟨_, e, rfl⟩)) (pg_tup rfl (pgs_cons (pg_name (i := 2) nd rfl (.inl rfl)) (pgs_cons (pg_name (i := 3) nd rfl (.inl rfl)) pgs_nil))) (tg2 (by decide)) ?_ (fun c z => z.elim)
  rintro _ rfl
  have hel : (cs.map colD).length = cs.length := List.length_map ..
  refine Loop.ind (fun n env M => ∃ s2 s3 s4 s5 s6 k, env = [.dat (colsD cs), .ptr k, s2, s3, s4, s5, s6] ∧ M[k]? = some (.ml ((allRows (cs.take n)).map rowD))) ⟨_, _, _, _, _, _, rfl, rfl⟩ ?_ ?_
  · rintro env M ⟨s2, s3, s4, s5, s6, k, rfl, hk⟩
    rw [hel, List.take_length] at hk
    exact ss_retP (pv 1) rfl ⟨_, hk, (fun z => nomatch z), rfl⟩
  · rintro n d hd _ M ⟨s2, s3, s4, s5, s6, k, rfl, hk⟩
    have hlt : n < cs.length := by rw [← hel]; exact (List.getElem?_eq_some_iff.mp hd).1
    have ed : d = .tup [.str cs[n].1, .tup cs[n].2] := by
      rw [List.getElem?_map, List.getElem?_eq_getElem hlt] at hd
      exact (Option.some.inj hd).symm
    subst ed
    refine ⟨_, ⟨_, _, rfl, rfl⟩, ?_⟩
    refine ss_setN (i := 4) (PX := N0) nd rfl (.inl rfl) (n_lstD (ds := []) d_nil (by decide)) ?_ fun c z => z.elim
    rintro _ rfl
    obtain ⟨b8, bl⟩ := hf.rows n (by omega)
    have b8 : (allRows (cs.take n)).length ≤ 512 := Nat.le_trans b8 (pow8 (by have := hf.few; omega))
    have sh := hf.short _ (List.getElem_mem hlt)
    have hkl : k < M.length := (List.getElem?_eq_some_iff.mp hk).1
    refine ss_forP (i := 1) (k := k) (ds := (allRows (cs.take n)).map rowD) (asg := as1 5) (passes_of rfl) rfl (pv 1) rfl (pg_name (i := 5) nd rfl (.inr rfl)) tg1 ?_
    refine LoopP.ind (fun i env M' => ∃ s5 s6, env = [.dat (colsD cs), .ptr k, .dat (.str cs[n].1), .dat (.tup cs[n].2), .ptr M.length, s5, s6] ∧ M' = M ++ [.ml ((longer ((allRows (cs.take n)).take i) cs[n].2).map rowD)]) ?_ ⟨_, _, rfl, rfl⟩ ?_ ?_
    · rintro i _ _ ⟨_, _, _, rfl⟩
      rw [List.getElem?_append_left hkl]; exact hk
    · rintro _ _ ⟨s5, s6, rfl, rfl⟩
      rw [List.length_map, List.take_length]
      refine ss_copyP (i := 1) (j := 4) (k := M.length) nd rfl (.inl rfl) (pv 4) rfl (ss_nil ⟨_, _, _, _, _, _, rfl, ?_⟩)
      rw [allRows_take hlt]
      simp
    · rintro i d hd _ _ ⟨s5, s6, rfl, rfl⟩
      have hil : i < (allRows (cs.take n)).length := by have := (List.getElem?_eq_some_iff.mp hd).1; rwa [List.length_map] at this
      rw [List.getElem?_map, List.getElem?_eq_getElem hil] at hd
      cases hd
      refine ⟨_, rfl, ?_⟩
      refine ss_extend (i := 4) (k := M.length) (PX := N0) (Pe := (· = cs[n].2.map fun v => .tup ((allRows (cs.take n))[i] ++ [v]))) (ds := (longer ((allRows (cs.take n)).take i) cs[n].2).map rowD) (pv 4) rfl (by simp) ?_ ?_ fun c z => z.elim
      · refine (n_lcD (x := "value") (i := 6) (ds := cs[n].2) (f := fun d => .tup ((allRows (cs.take n))[i] ++ [d])) rfl nd (i_tup (EV.mono (e_slot (pv 3) rfl) fun d e => ⟨_, e, rfl⟩)) (blkOk_by (N := N_all_rows) (sc := defScope s_all_rows) (by decide +kernel)) (fun _ _ _ _ _ => pg_name (i := 6) nd rfl (Or.inl rfl)) (by omega) ?_).mono fun m e => ⟨_, e, rfl⟩
        intro d hd s H C' cl fp
        exact q_row (e_slot (pv 5) rfl) (q_tup1 (e_slot (pv 6) rfl)) (by rw [bl _ (List.getElem_mem hil), List.length_singleton]; have := hf.few; omega)
      · rintro _ rfl
        refine ⟨?_, ss_nil ⟨_, _, rfl, ?_⟩⟩
        · rw [List.length_map, List.length_map, longer_len, List.length_take]
          have : min i (allRows (cs.take n)).length * cs[n].2.length ≤ 512 * 8 := Nat.mul_le_mul (by omega) sh
          omega
        · rw [longer_take hil, List.map_append, List.map_map]
          simp [rowD, Function.comp_def]
theorem is_row (h : Df K mg "is_row" s_is_row) (B : Bl mg) (h1 : Has P w K mg base CX0 "is_value" p_is_value 3 (spF K RVal)) :
    Has P w K mg base CX0 "is_row" p_is_row 4 (spF K fun ds Pf PXf => ∃ cs v, ds = [colsD cs, v] ∧ Fit cs ∧ Nice 50 v ∧ Pf = (· = .bl (isRow cs v)) ∧ PXf = N0) := by
  refine hasF h sc_is_row bn_is_row (by rintro ds Pf PXf ⟨cs, v, rfl, _⟩; rfl) ?_
  rintro f cdv A outer s H E hr ds Pf PXf ⟨cs, v, rfl, hf, hn, rfl, rfl⟩
  refine ss_ifret (P1 := (· = (!isTup v || !decide ((lenD v : Int) = cs.length)))) (PX := N0) ?_ (fun hb => ?_) (fun hb => ?_) fun c z => z.elim
  · refine BV.to (t_w (t_or (t_not (t_val (q_isTup rfl B.isinstance rfl B.tuple (e_slot (pv 1) rfl)))) fun hb => t_or1 (t_neI (q_len rfl B.len (e_slot (pv 1) rfl) (hn.sized (.inr (.inl (by revert hb; cases isTup v <;> simp))))) (q_len rfl B.len (e_slot (pv 0) rfl) rfl)))) ?_
    show (_ || !decide ((lenD v : Int) = lenD (.tup (cs.map colD)))) = _
    rw [show (lenD (.tup (cs.map colD))) = cs.length from List.length_map ..]
  · refine ss_ret (P1 := (· = .bl false)) (PX := N0) e_bl (fun d e => ⟨rfl, ?_⟩) fun c z => z.elim
    exact e.trans (congrArg D.bl (show isRow cs v = false from ifT hb).symm)
  have hT : isTup v = true := by revert hb; cases isTup v <;> simp
  obtain ⟨xs, rfl⟩ := isTup_of hT
  have hl : xs.length = cs.length := by
    have : decide ((lenD (.tup xs) : Int) = cs.length) = true := by revert hb; cases decide ((lenD (.tup xs) : Int) = cs.length) <;> simp
    exact Int.ofNat.inj (of_decide_eq_true this)
  refine ss_ret (P1 := (· = .bl (isRow cs (.tup xs)))) (PX := N0) ?_ (fun d e => e) fun c z => z.elim
  refine EV.toB (q_all (bs := List.zipWith (fun c v => isValueL (valsOf cs c.1) v) cs xs) rfl B.all rfl ?_) (ifF hb).symm
  have key : ∀ d ∈ pairsD (cs.map colD) xs, ∃ c ∈ cs, ∃ v, d = .tup [colD c, v] := by
    intro d hd
    obtain ⟨i, hi, e⟩ := List.mem_iff_getElem.mp hd
    unfold pairsD at e hi
    rw [List.getElem_zipWith, List.getElem_map] at e
    exact ⟨_, List.getElem_mem _, _, e.symm⟩
  refine EV.to (q_lc2 (x := "column") (y := "value") (i := 2) (j := 3) (ds := pairsD (cs.map colD) xs) (f := fun d => .bl (isValueL (valsOf cs (match itemD (itemD d 0) 0 with | .str z => z | _ => "")) (itemD d 1))) (by decide) rfl sc_is_row.nd (i_zipT rfl B.zip (e_slot (pv 0) rfl) (e_slot (pv 1) rfl)) (blkOk_by (N := N_is_row) (sc := defScope s_is_row) (by decide +kernel))
    (fun _ _ _ _ _ => pg_tup rfl (pgs_cons (pg_name (i := 2) sc_is_row.nd rfl (.inl rfl)) (pgs_cons (pg_name (i := 3) sc_is_row.nd rfl (.inl rfl)) pgs_nil))) ?_ ?_) ?_
  · unfold pairsD; rw [List.length_zipWith, List.length_map]; have := hf.few; omega
  · intro d hd
    obtain ⟨c, hc, v, rfl⟩ := key d hd
    refine ⟨_, _, rfl, fun s H C' cl fp => ?_⟩
    exact e_call0 (P := (· = .bl (isValueL (valsOf cs c.1) v))) h1 hr rfl (DV.n3 (e_slot (pv 0) rfl) (q_ixT (d := .str c.1) (ds := [.str c.1, .tup c.2]) (e_slot (pv 2) rfl) e_int (atI_nat (j := 0) rfl)) (e_slot (pv 3) rfl)) fun sl ⟨ds, e, e2⟩ => ⟨ds, _, e, ⟨cs, c.1, v, e2, ⟨c, hc, rfl⟩, hf, rfl, rfl⟩, fun d q => q⟩
  · congr 1
    unfold pairsD
    rw [List.zipWith_map_left, List.map_zipWith, List.map_zipWith]
    rfl
end
end K

set_option Elab.async false
set_option linter.all false
set_option maxRecDepth 100000
set_option maxHeartbeats 4000000
namespace DL
open PySem PySem.Spec PyProof.Rows L2 Evl
abbrev RTake (ds : List D) (Pf : D → Prop) : Prop := ∃ n : Int, ds = [.int n] ∧ 0 < n ∧ n < 500000000 ∧ Pf = fun d => ∃ j, d = .int j ∧ 0 ≤ j ∧ j < n
abbrev RWell (ds : List D) (Pf : MO → Prop) : Prop := ∃ (is : List Int) (k : Int), ds = [.lst (is.map .int), .int k] ∧ 0 ≤ k ∧ k ≤ 100 ∧ is.length ≤ 100 ∧ Pf = (· = .well)
def Letters (z : Str) : Prop := ∀ c ∈ z.cps.toList, 97 ≤ c ∧ c ≤ 122
abbrev RWord (ds : List D) (Pf : D → Prop) : Prop := ds = [] ∧ Pf = fun d => ∃ z : Str, d = .str z ∧ z.length ≤ 8 ∧ Letters z
section
variable {X : Cx} {E : WK} {env : List Slot} {M : List MO} {PX : Value → Prop} {a b c e : Expr} {es : List Expr} {pos p : Pos} {i k j : Nat} {B : Int} {P : D → Prop}
/-- a drawn number below a bound -/
theorem i_take {ps : List Str} (h : Has X.prog X.w X.K X.mg X.base CX0 "_law_take" ps k (spW X.K RTake)) (hr : Room k X.A) (hg : Gl X "_law_take") (hw : PE X a (tVar i)) (hei : env[i]? = some (.ptr j)) (hj : M[j]? = some .well) (hb : IE X E env M b (fun n => 0 < n ∧ n ≤ B) PX) (hB : B < 500000000)
    (he : starEach [a, b] X.env = (false, eval a X.env) :: starEach [b] X.env := by rfl) (he2 : starEach [b] X.env = (false, eval b X.env) :: starEach [] X.env := by rfl) (hpl : (backTo pos (starEach [b] X.env)).any (·.1) = false := by rfl) : IE X E env M (.Call (.Name "_law_take" p) [a, b] [] pos) (fun n => 0 ≤ n ∧ n < B) PX :=
  e_callW h hr hg (a_ptr hw hei (d_cons hb d_nil he2) he) hj (fun sl ⟨r, e1, ds, e2, d, r', e3, ⟨n, e4, h1, h2⟩, e5⟩ => ⟨ds, _, by rw [e1, e2], ⟨n, by rw [e3, e4, e5], h1, by omega, rfl⟩, fun d ⟨j, q1, q2, q3⟩ => ⟨j, q1, q2, by omega⟩⟩) (by decide) he hpl
theorem DV.mono {P P' : List D → Prop} (h : DV X E env M es P PX) (w : ∀ d, P d → P' d) : DV X E env M es P' PX := AV.mono h fun sl ⟨ds, e, p⟩ => ⟨ds, e, w ds p⟩
/-- range of so many -/
theorem i_upto {tg : Expr} {C : Int → Prop} {P : List D → Prop} (hg : Gl X "range") (hm : X.mg "range" = none) (h : IE X E env M a C PX) (hC : ∀ i, C i → 0 ≤ i ∧ i ≤ 100000 ∧ P (upFrom 0 i.toNat)) (hs : starEach [a] X.env = [(false, eval a X.env)] := by rfl) : IV X E env M tg (.Call (.Name "range" p) [a] [] pos) P PX :=
  i_range1 hg hm (DV.mono (d_cons h d_nil hs) fun l ⟨d, r, e, ⟨i, e2, c⟩, e3⟩ => ⟨i, by rw [e, e2, e3], (hC i c).2.1, by have := (hC i c).1; omega, (hC i c).2.2⟩) hs
/-- what stands somewhere in a list, a tuple -/
theorem e_pick {Pe : D → Prop} {n : Nat} (ha : EV X E env M a (fun d => ∃ ds, d = .lst ds ∧ ds.length = n ∧ ∀ x ∈ ds, Pe x) PX) (hb : IE X E env M b (fun i => 0 ≤ i ∧ i < n) PX) (hs : PlainIx b := by exact fun _ _ => rfl) : EV X E env M (.Subscript a b pos) Pe PX :=
  e_ix ix_list ha hb hs fun _ _ ⟨ds, e1, e2, e3⟩ ⟨i, e4, i0, i1⟩ => by
    subst e1 e4
    obtain ⟨m, rfl⟩ := Int.eq_ofNat_of_zero_le i0
    have hi : m < ds.length := by omega
    exact bin_ixL (d := ds[m]) (atI_nat (List.getElem?_eq_getElem hi)) (e3 _ (List.getElem_mem hi))
theorem e_pickS {s : Str} {Pe : D → Prop} (ha : EV X E env M a (· = .str s) PX) (hb : IE X E env M b (fun i => 0 ≤ i ∧ i < s.cps.toList.length) PX) (hl : s.length ≤ 100000) (h : ∀ c ∈ s.cps.toList, Pe (.str ⟨#[c]⟩)) (hs : PlainIx b := by exact fun _ _ => rfl) : EV X E env M (.Subscript a b pos) Pe PX :=
  e_ix ix_str ha hb hs fun _ _ e1 ⟨i, e4, i0, i1⟩ => by
    subst e1 e4
    obtain ⟨m, rfl⟩ := Int.eq_ofNat_of_zero_le i0
    have hi : m < s.cps.toList.length := by omega
    exact bin_ixS (c := s.cps.toList[m]) hl (atI_nat (List.getElem?_eq_getElem hi)) (h _ (List.getElem_mem hi))
end
theorem letters_of : ∀ rs : List D, rs.length ≤ 8 → (∀ r ∈ rs, ∃ c : Nat, r = .str ⟨#[c]⟩ ∧ 97 ≤ c ∧ c ≤ 122) → ∃ zs : List Str, D.lst rs = .lst (zs.map .str) ∧ zs.length ≤ 8 ∧ ∀ z ∈ zs, ∃ c : Nat, z = ⟨#[c]⟩ ∧ 97 ≤ c ∧ c ≤ 122 := by
  intro rs hl h
  have : ∃ zs : List Str, rs = zs.map .str ∧ ∀ z ∈ zs, ∃ c : Nat, z = ⟨#[c]⟩ ∧ 97 ≤ c ∧ c ≤ 122 := by
    clear hl
    induction rs with
    | nil => exact ⟨[], rfl, fun z hz => nomatch hz⟩
    | cons r t ih =>
      obtain ⟨zs, e, hz⟩ := ih fun r hr => h r (List.mem_cons_of_mem _ hr)
      obtain ⟨c, e2, hc⟩ := h r List.mem_cons_self
      refine ⟨⟨#[c]⟩ :: zs, by rw [e, e2]; rfl, fun z hz2 => ?_⟩
      rcases List.mem_cons.mp hz2 with rfl | hz2
      · exact ⟨c, rfl, hc⟩
      · exact hz z hz2
  obtain ⟨zs, rfl, hz⟩ := this
  exact ⟨zs, rfl, by simpa using hl, hz⟩
theorem joined : ∀ zs : List Str, (∀ z ∈ zs, ∃ c : Nat, z = ⟨#[c]⟩ ∧ 97 ≤ c ∧ c ≤ 122) → ((zs.map (·.length)).sum = zs.length ∧ (Txt.join "" zs).length = zs.length) ∧ Letters (Txt.join "" zs) := by
  intro zs h
  have go : ∀ zs : List Str, (Str.join "" zs).cps.toList = zs.flatMap fun z => z.cps.toList := by
    intro zs
    induction zs with
    | nil => rfl
    | cons z t ih =>
      cases t with
      | nil => show z.cps.toList = _; simp
      | cons z2 t =>
        show (z ++ "" ++ Str.join "" (z2 :: t)).cps.toList = _
        rw [show (z ++ ("" : Str) ++ Str.join "" (z2 :: t)).cps = z.cps ++ (("" : Str).cps) ++ (Str.join "" (z2 :: t)).cps from rfl, Array.toList_append, Array.toList_append, ih]
        rw [show (("" : Str).cps).toList = [] from rfl, List.append_nil]
        rfl
  have e : Txt.join "" zs = Str.join "" zs := StrLaws.glued_eq_join ..
  rw [e]
  have lets : (zs.map (·.length)).sum = zs.length ∧ (zs.flatMap fun z => z.cps.toList).length = zs.length ∧ ∀ c ∈ zs.flatMap fun z => z.cps.toList, 97 ≤ c ∧ c ≤ 122 := by
    clear go e
    induction zs with
    | nil => exact ⟨rfl, rfl, fun c hc => nomatch hc⟩
    | cons z t ih =>
      obtain ⟨c, rfl, hc⟩ := h z List.mem_cons_self
      obtain ⟨i1, i2, i3⟩ := ih fun z hz => h z (List.mem_cons_of_mem _ hz)
      refine ⟨?_, ?_, fun d hd => ?_⟩
      · rw [List.map_cons, List.sum_cons, i1, List.length_cons]
        show 1 + _ = _
        omega
      · rw [List.flatMap_cons, List.length_append, i2]
        show 1 + t.length = t.length + 1
        omega
      · rw [List.flatMap_cons, List.mem_append] at hd
        rcases hd with hd | hd
        · have : d = c := by simpa using hd
          rw [this]; exact hc
        · exact i3 d hd
  refine ⟨⟨lets.1, ?_⟩, fun c hc => lets.2.2 c (by rw [← go]; exact hc)⟩
  rw [← lets.2.1, ← go]
  simp [Str.length]
end DL
namespace K
open PySem PySem.Spec PyProof.Rows L2 Evl DL
section
variable {P : Program} {w : World} {K : PySem.W.Frag} {mg : Str → Option Value} {base : Heap}
theorem law_take (h : Df K mg "_law_take" s__law_take) : Has P w K mg base CX0 "_law_take" p__law_take 1 (spW K RTake) := by
  refine hasW h sc__law_take bn__law_take (by rintro ds Pf ⟨n, rfl, _⟩; rfl) ?_
  rintro f cdv A outer s H E hr ds Pf ⟨n, rfl, hn, hB, rfl⟩
  have nd := sc__law_take.nd
  refine ss_ifret (P1 := fun _ => True) (PX := N0) (i_cmp op_gt (e_well (n := 0) (k := 0) (x_ptr (pv 0) rfl) rfl (by decide)) (i_int (C := fun _ => True) trivial) (nomark _) fun _ _ _ _ => trivial) (fun _ => ?_) (fun _ => ?_) fun c z => z.elim
  · refine ss_set (i := 2) (P1 := fun d => ∃ j, d = .int j ∧ 0 ≤ j ∧ j < n) (PX := N0) nd rfl (.inl rfl) (i_mod (Cb := (· = n)) (e_well (n := 0) (k := 0) (x_ptr (pv 0) rfl) rfl (by decide)) (IE.of (e_slot (pv 1) rfl) rfl) fun i j _ e => by subst e; exact ⟨hn, Int.emod_nonneg _ (by omega), Int.emod_lt_of_pos _ hn⟩) ?_ fun c z => z.elim
    rintro _ ⟨j, rfl, hj⟩
    refine ss_setW (n := 0) (k := 0) (PX := N0) (pv 0) rfl rfl (by decide) (i_div (Cb := (· = n)) (e_well (n := 0) (k := 0) (x_ptr (pv 0) rfl) rfl (by decide)) (IE.of (e_slot (pv 1) rfl) rfl) fun i j _ e => by subst e; exact ⟨⟨hn, by omega⟩, trivial⟩) ?_ fun c z => z.elim
    exact ss_ret (P1 := (· = .int j)) (PX := N0) (e_slot (pv 2) rfl) (fun d e => ⟨rfl, ⟨j, e, hj⟩, rfl⟩) fun c z => z.elim
  · refine ss_setW (n := 1) (k := 0) (PX := N0) (pv 0) rfl rfl (by decide) (i_add (Ca := fun i => 0 ≤ i ∧ i < 4294967295) (Cb := (· = 1)) (i_mod (Ca := fun _ => True) (i_mul (Cb := (· = 48271)) (e_well (n := 1) (k := 0) (x_ptr (pv 0) rfl) rfl (by decide)) (i_int rfl) fun i j _ e => by subst e; exact ⟨.inr ⟨by decide, by decide⟩, trivial⟩)
      (e_well (n := 2) (k := 0) (x_ptr (pv 0) rfl) rfl (by decide)) fun i j _ (c : 0 < j ∧ j < 4294967296) => ⟨c.1, Int.emod_nonneg _ (by omega), by have := Int.emod_lt_of_pos i c.1; omega⟩) (i_int rfl) fun i j (h : 0 ≤ i ∧ i < 4294967295) e => by subst e; exact (show 0 ≤ i + 1 ∧ i + 1 < 4294967296 by omega)) ?_ fun c z => z.elim
    refine ss_ret (P1 := fun d => ∃ j, d = .int j ∧ 0 ≤ j ∧ j < n) (PX := N0) (i_mod (Ca := fun _ => True) (Cb := (· = n)) (i_div (Ca := fun _ => True) (Cb := (· = 7)) (i_mod (Ca := fun _ => True) (Cb := (· = 2147483423)) (i_mul (e_well (n := 1) (k := 0) (x_ptr (pv 0) rfl) rfl (by decide)) (e_well (n := 1) (k := 0) (x_ptr (pv 0) rfl) rfl (by decide))
      fun i j (hi : 0 ≤ i ∧ i < 4294967296) _ => ⟨.inl ⟨by omega, by omega⟩, trivial⟩) (i_int rfl) fun i j _ e => by subst e; exact ⟨by decide, trivial⟩) (i_int rfl) fun i j _ e => by subst e; exact ⟨⟨by decide, by decide⟩, trivial⟩) (IE.of (e_slot (pv 1) rfl) rfl) fun i j _ e => by subst e; exact ⟨hn, Int.emod_nonneg _ (by omega), Int.emod_lt_of_pos _ hn⟩) (fun d e => ⟨e, rfl⟩) fun c z => z.elim
theorem law_word (h : Df K mg "_law_word" s__law_word) (B : Bl mg) (h1 : Has P w K mg base CX0 "_law_take" p__law_take 1 (spW K RTake)) : Has P w K mg base CX0 "_law_word" p__law_word 2 (spW K RWord) := by
  refine hasW h sc__law_word bn__law_word (by rintro ds Pf ⟨rfl, _⟩; rfl) ?_
  rintro f cdv A outer s H E hr ds Pf ⟨rfl, rfl⟩
  have nd := sc__law_word.nd
  refine ss_set (i := 1) (P1 := (· = .str "abcdefghijklmnopqrstuvwxyz")) (PX := N0) nd rfl (.inr rfl) e_str ?_ fun c z => z.elim
  rintro _ rfl
  refine ss_set (i := 2) (P1 := fun d => ∃ j, d = .int j ∧ 1 ≤ j ∧ j ≤ 8) (PX := N0) nd rfl (.inl rfl) (e_pick (n := 4) ((q_lstD (ds := [.int 1, .int 1, .int 2, .int 8]) (DV.co e_int (DV.co e_int (DV.co e_int (DV.co e_int d_nil)))) (by decide)).mono fun d e => ⟨_, e, rfl, ?_⟩) (i_take (B := 4) h1 hr rfl (pv 0) rfl rfl (i_int (by decide)) (by decide))) ?_ fun c z => z.elim
  · intro x hx
    simp only [List.mem_cons, List.not_mem_nil, or_false] at hx
    rcases hx with rfl | rfl | rfl | rfl <;> exact ⟨_, rfl, by decide, by decide⟩
  rintro _ ⟨m, rfl, hm⟩
  refine ss_ret (P1 := fun d => ∃ z : Str, d = .str z ∧ z.length ≤ 8 ∧ Letters z) (PX := N0) (e_join (s := "") (Pz := fun zs => zs.length ≤ 8 ∧ ∀ z ∈ zs, ∃ c : Nat, z = ⟨#[c]⟩ ∧ 97 ≤ c ∧ c ≤ 122) e_str (e_lc (own := [("_law_k", 3)]) (g := gName 3) (asg := as1 3) (Pd := (· = upFrom 0 m.toNat)) (Pt := fun _ b => b = true) (Pe := fun _ r => ∃ c : Nat, r = .str ⟨#[c]⟩ ∧ 97 ≤ c ∧ c ≤ 122) rfl nd
    (i_upto (C := (· = m)) rfl B.range (IE.of (e_slot (pv 2) rfl) rfl) fun i e => by subst e; exact ⟨by omega, by omega, rfl⟩) (blkOk_by (N := N__law_word) (sc := defScope s__law_word) (by decide +kernel)) (fun _ _ _ _ _ => pg_name (i := 3) nd rfl (Or.inl rfl)) tg1 ⟨fun _ d _ _ => ⟨_, rfl⟩, fun ds e => by rw [e, upFrom_len]; omega, ?_, fun _ _ _ _ _ _ _ _ _ _ _ => ts_nil rfl⟩ ?_) ?_) (fun d e => ⟨e, rfl⟩) fun c z => z.elim
  · rintro ds d env' e hd _ rfl s H C cl fp
    exact e_pickS (s := "abcdefghijklmnopqrstuvwxyz") (e_slot (pv 1) rfl) (i_take (B := 26) h1 hr rfl (pv 0) rfl rfl (i_int (by decide)) (by decide)) (by decide) fun c hc => ⟨c, rfl, by revert c; decide +kernel⟩
  · rintro ds rs e l
    have hl : rs.length ≤ 8 := by rw [l.len_eq, e, upFrom_len]; omega
    exact letters_of rs hl (LcR.all (Q := fun r => ∃ c : Nat, r = .str ⟨#[c]⟩ ∧ 97 ≤ c ∧ c ≤ 122) (fun d r q => q) l)
  · rintro zs ⟨h1, h2⟩
    have := joined zs h2
    refine ⟨by rw [show (("" : Str).length) = 0 from rfl]; omega, _, rfl, by omega, this.2⟩
theorem law_well (h : Df K mg "_law_well" s__law_well) (B : Bl mg) : Has P w K mg base CX0 "_law_well" p__law_well 1 (spN K RWell) := by
  refine hasN h sc__law_well bn__law_well (by rintro ds Pf ⟨is, k, rfl, _⟩; rfl) ?_
  rintro f cdv A outer s H E hr ds Pf ⟨is, k, rfl, hk0, hk1, hl, rfl⟩
  have nd := sc__law_well.nd
  refine ss_set (i := 2) (P1 := (· = .int 0)) (PX := N0) nd rfl (.inl rfl) e_int ?_ fun c z => z.elim
  rintro _ rfl
  refine ss_if (P1 := (· = decide (k < ((is.map D.int).length : Nat)))) (PX := N0) (P2 := fun o => ∃ x : Int, o = .nx [.dat (.lst (is.map .int)), .dat (.int k), .dat (.int x), .un, .un] []) ?_ (fun hb => ?_) (fun hb => ss_nil ⟨0, rfl⟩) ?_ (fun o ⟨x, e⟩ hn => by rw [e] at hn; cases hn) fun c z => z.elim
  · exact BV.to (t_lt (e_slot (pv 1) rfl) (q_len rfl B.len (e_slot (pv 0) rfl) rfl)) rfl
  · obtain ⟨m, rfl⟩ := Int.eq_ofNat_of_zero_le hk0
    have hlt : m < (is.map D.int).length := by have := of_decide_eq_true hb.symm; omega
    have hlt2 : m < is.length := by rwa [List.length_map] at hlt
    obtain ⟨x, hx⟩ : ∃ x, is[m]? = some x := ⟨_, List.getElem?_eq_getElem hlt2⟩
    refine ss_set (i := 2) (P1 := (· = .int x)) (PX := N0) nd rfl (.inl rfl) (q_ixL (e_slot (pv 0) rfl) (e_slot (pv 1) rfl) (atI_nat (by rw [List.getElem?_map, hx]; rfl))) ?_ fun c z => z.elim
    rintro _ rfl
    exact ss_nil ⟨_, rfl⟩
  rintro env1 M1 ⟨x, e⟩
  cases e
  refine ss_set (i := 3) (P1 := fun d => ∃ ds, d = .lst ds ∧ ds.length = 8 ∧ ∀ y ∈ ds, ∃ c : Int, y = .int c ∧ 0 < c ∧ c < 4294967296) (PX := N0) nd rfl (.inl rfl) ((q_lstD (ds := [.int 2147483647, .int 2147483629, .int 2147483587, .int 2147483579, .int 2147483563, .int 2147483549, .int 2147483543, .int 2147483497]) (DV.co e_int (DV.co e_int (DV.co e_int (DV.co e_int (DV.co e_int (DV.co e_int (DV.co e_int (DV.co e_int d_nil)))))))) (by decide)).mono fun d e => ⟨_, e, rfl, ?_⟩) ?_ fun c z => z.elim
  · intro x hx
    simp only [List.mem_cons, List.not_mem_nil, or_false] at hx
    rcases hx with rfl | rfl | rfl | rfl | rfl | rfl | rfl | rfl <;> exact ⟨_, rfl, by decide, by decide⟩
  rintro _ ⟨ds, rfl, h8, hds⟩
  refine ss_set (i := 4) (P1 := fun d => ∃ j, d = .int j ∧ 0 ≤ j ∧ j < 2147483489) (PX := N0) nd rfl (.inl rfl) (i_mod (Ca := fun _ => True) (Cb := (· = 2147483489)) (i_mul (Ca := fun i => 0 ≤ i ∧ i < 4294967296) (Cb := fun _ => True) (i_add (Ca := fun i => 0 ≤ i ∧ i < 2147483489) (Cb := (· = 1)) (i_mod (Ca := fun _ => True) (Cb := (· = 2147483489)) (IE.of (e_slot (pv 2) rfl) trivial) (i_int rfl)
      fun i j _ e => by subst e; exact ⟨by decide, Int.emod_nonneg _ (by decide), Int.emod_lt_of_pos _ (by decide)⟩) (i_int rfl) fun i j h e => by subst e; exact ⟨by omega, by omega⟩) (i_add (Ca := fun _ => True) (Cb := fun _ => True) (i_int trivial) (i_mul (Ca := (· = 2)) (Cb := fun _ => True) (i_int rfl) (IE.of (e_slot (pv 1) rfl) trivial) fun i j e _ => by subst e; exact ⟨.inl ⟨by decide, by decide⟩, trivial⟩) fun _ _ _ _ => trivial)
      fun i j h _ => ⟨.inl ⟨by omega, by omega⟩, trivial⟩) (i_int rfl) fun i j _ e => by subst e; exact ⟨by decide, Int.emod_nonneg _ (by decide), Int.emod_lt_of_pos _ (by decide)⟩) ?_ fun c z => z.elim
  rintro _ ⟨s1, rfl, hs1⟩
  refine ss_set (i := 4) (P1 := fun d => ∃ j, d = .int j ∧ 0 ≤ j ∧ j < 4294967296) (PX := N0) nd rfl (.inl rfl) (i_add (Ca := fun i => 0 ≤ i ∧ i < 2147483600) (Cb := (· = 1)) (i_add (Ca := fun i => 0 ≤ i ∧ i < 2147483477) (Cb := (· = k)) (i_mod (Ca := fun _ => True) (Cb := (· = 2147483477)) (i_mul (Ca := (· = s1)) (Cb := (· = s1)) (IE.of (e_slot (pv 4) rfl) rfl) (IE.of (e_slot (pv 4) rfl) rfl) fun i j e e2 => by subst e; exact ⟨.inl ⟨by omega, by omega⟩, trivial⟩) (i_int rfl)
      fun i j _ e => by subst e; exact ⟨by decide, Int.emod_nonneg _ (by decide), Int.emod_lt_of_pos _ (by decide)⟩) (IE.of (e_slot (pv 1) rfl) rfl) fun i j h e => by subst e; exact ⟨by omega, by omega⟩) (i_int rfl) fun i j h e => by subst e; exact ⟨by omega, by omega⟩) ?_ fun c z => z.elim
  rintro _ ⟨s2, rfl, hs2⟩
  refine ss_ifret (P1 := fun _ => True) (PX := N0) (i_cmp op_ge (Ca := fun _ => True) (Cb := fun _ => True) (IE.of (e_slot (pv 2) rfl) trivial) (i_pow (Ca := (· = 10)) (Cb := (· = 18)) (i_int rfl) (i_int rfl) fun i j e e2 => by subst e e2; exact ⟨⟨by decide, by decide, by decide⟩, trivial⟩) (nomark _) fun _ _ _ _ => trivial) (fun _ => ?_) (fun _ => ?_) fun c z => z.elim
  · refine ss_retV (P1 := (· = .well)) (PX := N0) (NV.well (n_lst (P1 := fun l => ∃ x y c : Int, l = [.int x, .int y, .int c] ∧ (0 ≤ y ∧ y < 4294967296) ∧ 0 < c ∧ c < 4294967296) ?_ fun l ⟨x, y, c, e, h⟩ => ⟨by rw [e]; show 3 ≤ 100000; omega, x, y, c, by rw [e], h⟩)) (fun m e => ⟨rfl, .well, by rw [e]; rfl, (fun z => nomatch z), rfl⟩) fun c z => z.elim
    exact DV.mono (d_cons (P1 := fun d => ∃ x, d = .int x ∧ True) (IE.of (e_slot (pv 2) rfl) trivial) (d_cons (P1 := fun d => ∃ x, d = .int x ∧ 0 ≤ x ∧ x < 4294967296) (IE.of (e_slot (pv 4) rfl) hs2) (d_cons (e_pick (n := 8) ((e_slot (pv 3) rfl).mono fun d e => ⟨ds, e, h8, hds⟩) (i_mod (Ca := (· = k)) (Cb := (· = 8)) (IE.of (e_slot (pv 1) rfl) rfl) (i_int rfl) fun i j _ e => by subst e; exact ⟨by decide, Int.emod_nonneg _ (by decide), Int.emod_lt_of_pos _ (by decide)⟩)) d_nil))) fun l ⟨d1, r1, e1, ⟨x, e2, _⟩, d2, r2, e3, ⟨y, e4, hy⟩, d3, r3, e5, ⟨c, e6, hc⟩, e7⟩ => ⟨x, y, c, by rw [e1, e2, e3, e4, e5, e6, e7], hy, hc⟩
  · refine ss_retV (P1 := (· = .well)) (PX := N0) (NV.well (n_lst (P1 := fun l => ∃ x y c : Int, l = [.int x, .int y, .int c] ∧ (0 ≤ y ∧ y < 4294967296) ∧ 0 < c ∧ c < 4294967296) ?_ fun l ⟨x, y, c, e, h⟩ => ⟨by rw [e]; show 3 ≤ 100000; omega, x, y, c, by rw [e], h⟩)) (fun m e => ⟨.well, by rw [e]; rfl, (fun z => nomatch z), rfl⟩) fun c z => z.elim
    exact DV.mono (d_cons (P1 := fun d => ∃ x, d = .int x ∧ True) (i_int trivial) (d_cons (P1 := fun d => ∃ x, d = .int x ∧ 0 ≤ x ∧ x < 4294967296) (IE.of (e_slot (pv 4) rfl) hs2) (d_cons (e_pick (n := 8) ((e_slot (pv 3) rfl).mono fun d e => ⟨ds, e, h8, hds⟩) (i_mod (Ca := (· = k)) (Cb := (· = 8)) (IE.of (e_slot (pv 1) rfl) rfl) (i_int rfl) fun i j _ e => by subst e; exact ⟨by decide, Int.emod_nonneg _ (by decide), Int.emod_lt_of_pos _ (by decide)⟩)) d_nil))) fun l ⟨d1, r1, e1, ⟨x, e2, _⟩, d2, r2, e3, ⟨y, e4, hy⟩, d3, r3, e5, ⟨c, e6, hc⟩, e7⟩ => ⟨x, y, c, by rw [e1, e2, e3, e4, e5, e6, e7], hy, hc⟩
end
end K

set_option Elab.async false
set_option linter.all false
set_option maxRecDepth 100000
set_option maxHeartbeats 4000000
namespace DL
open PySem PySem.Spec PyProof.Rows L2 Evl
/-! dicts of one's own, keyed by numbers and texts -/
def putD (kvs : List (Key × D)) (k : Key) (d : D) : List (Key × D) :=
  if (kvs.any fun kv => decide (kv.1 = k)) = true then kvs.map (fun kv => if kv.1 = k then (kv.1, d) else kv) else kvs ++ [(k, d)]
theorem putD_len (kvs : List (Key × D)) (k : Key) (d : D) : (putD kvs k d).length ≤ kvs.length + 1 := by
  unfold putD; split
  · rw [List.length_map]; omega
  · rw [List.length_append]; exact Nat.le_refl _
theorem putD_key {kvs : List (Key × D)} {k j : Key} {d : D} (h : j ∈ (putD kvs k d).map (·.1)) : j ∈ kvs.map (·.1) ∨ j = k := by
  unfold putD at h; split at h
  · left
    rw [List.map_map] at h
    obtain ⟨p, hp, e⟩ := List.mem_map.mp h
    refine List.mem_map.mpr ⟨p, hp, ?_⟩
    rw [← e]; show p.1 = (if p.1 = k then (p.1, d) else p).1
    split <;> rfl
  · rw [List.map_append] at h
    rcases List.mem_append.mp h with h | h
    · exact .inl h
    · exact .inr (by simpa using h)
section
variable {K : PySem.W.Frag} {S H S2 H2 : Hp} {as : List Addr} {M : List MO}
theorem RepKV.any (k : Key) : ∀ {kvs : List (Key × D)} {vs : List (Key × V)}, RepKV K S kvs vs → (kvs.any fun kv => decide (kv.1 = k)) = vs.any fun kv => decide (kv.1 = k)
  | [], _, h => by rw [show _ = [] from h]; rfl
  | p :: r, _, ⟨x, t, e, h1, h2⟩ => by rw [e, List.any_cons, List.any_cons, RepKV.any k h2]
theorem RepKV.app : ∀ {a b : List (Key × D)} {x y : List (Key × V)}, RepKV K S a x → RepKV K S b y → RepKV K S (a ++ b) (x ++ y)
  | [], _, _, _, h, g => by rw [show _ = [] from h]; exact g
  | p :: r, _, _, _, ⟨x, t, e, h1, h2⟩, g => ⟨x, t ++ _, by rw [e]; rfl, h1, h2.app g⟩
theorem RepKV.repl {k : Key} {d : D} {v : V} (hr : Rep K S d v) : ∀ {kvs : List (Key × D)} {vs : List (Key × V)}, RepKV K S kvs vs → RepKV K S (kvs.map fun kv => if kv.1 = k then (kv.1, d) else kv) (vs.map fun kv => if kv.1 = k then (kv.1, v) else kv)
  | [], _, h => by rw [show _ = [] from h]; exact rfl
  | p :: r, _, ⟨x, t, e, h1, h2⟩ => by
    rw [e]
    by_cases hk : p.1 = k
    · refine ⟨v, _, ?_, ?_, h2.repl hr⟩
      · rw [List.map_cons]; simp [hk]
      · simp [hk]; exact hr
    · refine ⟨x, _, ?_, ?_, h2.repl hr⟩
      · rw [List.map_cons]; simp [hk]
      · simp [hk]; exact h1
theorem RepKV.put {k : Key} {d : D} {v : V} (hr : Rep K S d v) {kvs : List (Key × D)} {vs : List (Key × V)} (h : RepKV K S kvs vs) : RepKV K S (putD kvs k d) (putK vs k v) := by
  unfold putD putK
  rw [h.any k]
  split
  · exact h.repl hr
  · exact h.app ⟨v, [], rfl, hr, rfl⟩
theorem RepKV.keys : ∀ {kvs : List (Key × D)} {vs : List (Key × V)}, RepKV K S kvs vs → vs.map (·.1) = kvs.map (·.1)
  | [], _, h => by rw [show _ = [] from h]; rfl
  | p :: r, _, ⟨x, t, e, h1, h2⟩ => by rw [e, List.map_cons, List.map_cons, h2.keys]
theorem Ok.dict (ok : Ok K S as M H) {k : Nat} {a : Addr} {kvs : List (Key × D)} (ha : as[k]? = some a) (hm : M[k]? = some (.md kvs)) : ∃ vs, S a = none ∧ H a = some (.dK vs) ∧ RepKV K S kvs vs := by
  obtain ⟨b, hb, hS, vs, hv, r⟩ := ok.own.get hm
  obtain rfl : b = a := Option.some.inj (hb.symm.trans ha)
  exact ⟨vs, hS, hv, r⟩
/-- a dict of one's own, whether it is being gone through or not -/
def DictAt (M : List MO) (k : Nat) (kvs : List (Key × D)) : Prop := M[k]? = some (.md kvs) ∨ M[k]? = some (.lk kvs)
theorem Ok.dictR (ok : Ok K S as M H) {k : Nat} {a : Addr} {kvs : List (Key × D)} (ha : as[k]? = some a) (hm : DictAt M k kvs) : ∃ vs, Rd H a (.dK vs) ∧ RepKV K S kvs vs := by
  rcases hm with hm | hm
  · obtain ⟨b, hb, hS, vs, hv, r⟩ := ok.own.get hm
    obtain rfl : b = a := Option.some.inj (hb.symm.trans ha)
    exact ⟨vs, .inl hv, r⟩
  · obtain ⟨b, hb, od, vs, hS, hv, r⟩ := ok.own.get hm
    obtain rfl : b = a := Option.some.inj (hb.symm.trans ha)
    exact ⟨vs, .inr ⟨od, hv⟩, r⟩
end
/-- a key, as data -/
def kD : Key → D
  | .inl i => .int i | .inr z => .str z
theorem kD_rep {K : PySem.W.Frag} {S : Hp} : ∀ k : Key, Rep K S (kD k) (kV k)
  | .inl _ => rfl
  | .inr _ => rfl
theorem rep_kD {K : PySem.W.Frag} {S : Hp} {v : V} : ∀ {k : Key}, Rep K S (kD k) v → v = kV k
  | .inl _, h => h
  | .inr _, h => h
section
variable {X : Cx} {E : WK} {env : List Slot} {M : List MO} {PX : Value → Prop} {a b c e ix o : Expr} {es : List Expr} {rest : List Stmt} {pos p p2 pos' tpos apos cpos : Pos} {d : D} {P : Out → Prop} {x : Str} {i j k : Nat} {kvs : List (Key × D)}
/-- {} -/
theorem n_dict : NV X E env M (.Dict [] [] pos) (· = .md []) PX :=
  PE.imp pe_dnewK fun σ H Q ⟨S, as, ok, en, kk, x⟩ => fun p hp => by
    have hs : S p = none := by
      cases e : S p with
      | none => rfl
      | some o => rw [ok.ex p o e] at hp; cases hp
    exact kk (.md []) p S _ rfl (Post.grew (Ex.refl _) (Ex.new hp) fun _ z1 z2 => absurd z2 z1) hp (ok.more hp (Ex.new hp) ⟨hs, [], upd_same, rfl⟩)
/-- d[k] = v -/
theorem ss_putD {Pd : D → Prop} {Pk : Key → Prop} (hu : X.A.units + 1 < cLine) (h : PE X o (tVar i)) (hei : env[i]? = some (.ptr k)) (hm : M[k]? = some (.md kvs)) (hix : EV X E env M ix (fun d => ∃ q, d = kD q ∧ Pk q) PX) (hl : kvs.length < 100000) (hv : EV X E env M e Pd PX)
    (hr : ∀ q d, Pk q → Pd d → BS X E env (M.set k (.md (putD kvs q d))) rest P) (hx : ∀ c, PX c → P (.xx c env M)) (hs : swapsWith e (some (.Subscript o ix tpos)) pos.line X.env = pure false := by rfl) : BS X E env M (.Assign [.Subscript o ix tpos] e pos :: rest) P := by
  refine ss_cons (P1 := fun o => (∃ q d, Pk q ∧ Pd d ∧ o = .nx env (M.set k (.md (putD kvs q d)))) ∨ ∃ c, PX c ∧ o = .xx c env M) (PS.imp (ps_dput hu h hix hv hs) fun Dn σ H ⟨S, as, ok, en, kk⟩ => ⟨S, as, ok, en, fun d v S2 H2 pd p2 ok2 r => ?_, fun c S2 H2 p p2 ok2 => (kk _ (.inr ⟨c, p, rfl⟩)).exc p2 ok2 (en.ex p2.ex)⟩) ?_ ?_
  · obtain ⟨o1, ho, s⟩ := en.get hei
    obtain ⟨q, hq, rfl⟩ := s
    refine ⟨_, ho, S2, as, ok2, en.ex p2.ex, fun d2 u S3 H3 e3 p3 ok3 r3 => ?_, fun c S3 H3 p p3 ok3 => (kk _ (.inr ⟨c, p, rfl⟩)).exc (p2.trans p3) ok3 (en.ex (p2.trans p3).ex)⟩
    obtain ⟨key, rfl, pk⟩ := e3
    obtain rfl := rep_kD r3
    obtain ⟨vs, hS, hv2, rl⟩ := ok3.dict hq hm
    obtain ⟨ok4, p4⟩ := ok3.mut (m := .md (putD kvs key d)) (o := .dK (putK vs key v)) hq hS ⟨hS, _, upd_same, rl.put (r.mono p3.ex)⟩
    exact ⟨q, _, rfl, DPut.k hv2 (sz_lt (by rw [rl.length]; exact hl)), (kk _ (.inl ⟨key, d, pk, pd, rfl⟩)).go ((p2.trans p3).trans p4) ok4 (en.ex ((p2.trans p3).trans p4).ex)⟩
  · rintro env1 M1 (⟨q, d, pk, pd, e1⟩ | ⟨c, _, e1⟩)
    · cases e1; exact hr q d pk pd
    · cases e1
  · rintro o (⟨q, d, pk, pd, rfl⟩ | ⟨c, p, rfl⟩) hn'
    · cases hn'
    · exact hx c p
/-- len(d) -/
theorem call_lenRd : CallR X (.builtin "len") (fun xs H Q => ∃ a kvs, xs = [V.ref a] ∧ Rd H a (.dK kvs) ∧ Q (.int kvs.length) H) := by
  intro pins s σ H xs us Q I r h
  obtain ⟨a, kvs, rfl, ha, q⟩ := h
  obtain ⟨u, rfl, ru⟩ := vals1 r
  cases ru
  exact d_len I ha fun t s' I' => ⟨.int kvs.length, H, I', ⟨t, rfl⟩, q⟩
theorem q_lenD (hg : Gl X "len") (hm : X.mg "len" = none) (ha : PE X a (tVar i)) (hei : env[i]? = some (.ptr k)) (hk : DictAt M k kvs) (he : starEach [a] X.env = (false, eval a X.env) :: starEach [] X.env := by rfl) (hpl : (backTo pos (starEach [] X.env)).any (·.1) = false := by rfl) : EV X E env M (.Call (.Name "len" p) [a] [] pos) (· = .int kvs.length) PX :=
  PE.imp (pe_callB call_lenRd hg hm PySem.boot_len (pa_cons ha pa_nil he) (by decide) (by decide) he hpl) fun σ H Q ⟨S, as, ok, en, kk, x⟩ => by
    obtain ⟨o1, ho, s⟩ := en.get hei
    obtain ⟨q, hq, rfl⟩ := s
    obtain ⟨vs, hv, r⟩ := ok.dictR hq hk
    exact ⟨_, ho, q, vs, rfl, hv, kk _ _ S H rfl Post.refl ok (by rw [r.length]; rfl)⟩
/-- k in d -/
def hasK (kvs : List (Key × D)) (q : Key) : Bool := kvs.any fun kv => decide (kv.1 = q)
/-- d[k] -/
theorem RepKV.val {K : PySem.W.Frag} {S : Hp} (q : Key) : ∀ {kvs : List (Key × D)} {vs : List (Key × V)}, RepKV K S kvs vs → match kvs.find? (fun kv => decide (kv.1 = q)) with
    | some kv => ∃ v, valV vs q = some v ∧ Rep K S kv.2 v
    | none => valV vs q = none
  | [], _, h => by rw [show _ = [] from h]; rfl
  | p :: r, _, ⟨x, t, e, h1, h2⟩ => by
    rw [e]
    by_cases hk : p.1 = q
    · rw [List.find?_cons_of_pos (by simp [hk])]
      exact ⟨x, valV_pos hk, h1⟩
    · rw [List.find?_cons_of_neg (by simp [hk]), valV_neg hk]
      exact h2.val q
theorem e_getD {Pe : D → Prop} {q : Key} (hu : X.A.units + 1 < cLine) (h : PE X o (tVar i)) (hei : env[i]? = some (.ptr k)) (hm : DictAt M k kvs) (hix : EV X E env M ix (· = kD q) PX) (hs : NoSl ix) {kv : Key × D} (hf : kvs.find? (fun kv => decide (kv.1 = q)) = some kv) (hp : Pe kv.2) : EV X E env M (.Subscript o ix pos) Pe PX :=
  PE.imp (pe_dget hu h hix hs) fun σ H Q ⟨S, as, ok, en, kk, x⟩ => by
    obtain ⟨o1, ho, s⟩ := en.get hei
    obtain ⟨b, hb, rfl⟩ := s
    refine ⟨_, ho, S, as, ok, en, fun d u S2 H2 pd p2 ok2 r => ?_, x⟩
    subst pd
    obtain rfl := rep_kD r
    obtain ⟨vs, hv, rk⟩ := ok2.dictR hb hm
    have := rk.val q
    rw [hf] at this
    obtain ⟨v, hv2, rv⟩ := this
    exact ⟨b, v, rfl, .inl ⟨vs, q, hv, rfl, hv2.symm⟩, kk _ _ S2 H2 hp p2 ok2 rv⟩
theorem RepKV.has {K : PySem.W.Frag} {S : Hp} (q : Key) {kvs : List (Key × D)} {vs : List (Key × V)} (h : RepKV K S kvs vs) : (valV vs q).isSome = hasK kvs q := by
  rw [← valV_any, ← h.any q]; rfl
/-- k in d -/
theorem q_inD {q : Key} (hu : X.A.units + 1 < cLine) (h : PE X o (tVar i)) (hei : env[i]? = some (.ptr k)) (hm : DictAt M k kvs) (hix : EV X E env M a (· = kD q) PX) : PC X .In a o (fun σ H Q => tP X.K E env M (· = .bl (hasK kvs q)) PX σ H Q) :=
  ⟨fun pins s σ H Q I q0 => (pc_din hu hix h).run pins s σ H Q I (by
    obtain ⟨S, as, ok, en, kk, x⟩ := q0
    refine ⟨S, as, ok, en, fun d u S2 H2 pd p2 ok2 r => ?_, x⟩
    subst pd
    obtain rfl := rep_kD r
    have en2 := en.ex p2.ex
    obtain ⟨o1, ho, s⟩ := en2.get hei
    obtain ⟨b, hb, rfl⟩ := s
    obtain ⟨vs, hv, rk⟩ := ok2.dictR hb hm
    exact ⟨_, ho, b, _, rfl, .inl ⟨vs, q, hv, rfl, rfl⟩, kk _ _ S2 H2 rfl p2 ok2 (by rw [rk.has]; rfl)⟩)⟩
end
end DL

set_option Elab.async false
set_option linter.all false
set_option maxRecDepth 100000
set_option maxHeartbeats 4000000
namespace DL
open PySem PySem.Spec PyProof.Rows L2 Evl
/-! a dict of one's own, gone through: from there on it stays as it is -/
section
variable {K : PySem.W.Frag} {S S2 H H2 : Hp} {as : List Addr} {M : List MO}
/-- without what stands at p -/
def era (S : Hp) (p : Addr) : Hp := fun a => if a = p then none else S a
theorem era_ne {S : Hp} {p a : Addr} (h : a ≠ p) : era S p a = S a := if_neg h
theorem era_same {S : Hp} {p : Addr} : era S p p = none := if_pos rfl
def NotSq (S : Hp) (p : Addr) : Prop := ∃ od vs, S p = some (.frz od (.dK vs))
mutual
theorem Rep.era {p : Addr} (hp : NotSq S p) : ∀ {d : D} {v : V}, Rep K S d v → Rep K (era S p) d v
  | .non, _, h => h
  | .bl _, _, h => h
  | .int _, _, h => h
  | .str _, _, h => h
  | .tup _, _, ⟨a, xs, e1, h1, h2⟩ => by
    refine ⟨a, xs, e1, ?_, RepL.era hp h2⟩
    obtain ⟨od, vs, hp⟩ := hp
    rcases h1 with h1 | h1
    · left
      rcases h1 with h1 | ⟨o, h1⟩
      · exact .inl (by rw [era_ne (by rintro rfl; rw [hp] at h1; cases h1)]; exact h1)
      · exact .inr ⟨o, by rw [era_ne (by rintro rfl; rw [hp] at h1; cases h1)]; exact h1⟩
    · exact .inr h1
  | .lst _, _, ⟨a, xs, e1, h1, h2⟩ => by
    refine ⟨a, xs, e1, ?_, RepL.era hp h2⟩
    obtain ⟨od, vs, hp⟩ := hp
    rcases h1 with h1 | h1
    · left
      rcases h1 with h1 | ⟨o, h1⟩
      · exact .inl (by rw [era_ne (by rintro rfl; rw [hp] at h1; cases h1)]; exact h1)
      · exact .inr ⟨o, by rw [era_ne (by rintro rfl; rw [hp] at h1; cases h1)]; exact h1⟩
    · exact .inr h1
theorem RepL.era {p : Addr} (hp : NotSq S p) : ∀ {ds : List D} {xs : List V}, RepL K S ds xs → RepL K (era S p) ds xs
  | [], _, h => h
  | _ :: _, _, ⟨x, r, e1, h1, h2⟩ => ⟨x, r, e1, Rep.era hp h1, RepL.era hp h2⟩
end
theorem RepKV.era {p : Addr} (hp : NotSq S p) : ∀ {kvs : List (Key × D)} {vs : List (Key × V)}, RepKV K S kvs vs → RepKV K (era S p) kvs vs
  | [], _, h => h
  | _ :: _, _, ⟨x, r, e1, h1, h2⟩ => ⟨x, r, e1, h1.era hp, RepKV.era hp h2⟩
theorem HasO.era {p a : Addr} {m : MO} {u : HO} (hp : NotSq S p) (hne : a ≠ p) (h : HasO K S H a m) : HasO K (era S p) (upd H p u) a m := by
  cases m with
  | gone => show upd H p u a ≠ none; rw [upd_ne hne]; exact h
  | ml ds => obtain ⟨h1, vs, h2, h3⟩ := h; exact ⟨by rw [era_ne hne]; exact h1, vs, by rw [upd_ne hne]; exact h2, h3.era hp⟩
  | well => obtain ⟨h1, x, y, c, h2, h3⟩ := h; exact ⟨by rw [era_ne hne]; exact h1, x, y, c, by rw [upd_ne hne]; exact h2, h3⟩
  | md kvs => obtain ⟨h1, vs, h2, h3⟩ := h; exact ⟨by rw [era_ne hne]; exact h1, vs, by rw [upd_ne hne]; exact h2, h3.era hp⟩
  | lk kvs => obtain ⟨od, vs, h1, h2, h3⟩ := h; exact ⟨od, vs, by rw [era_ne hne]; exact h1, by rw [upd_ne hne]; exact h2, h3.era hp⟩
theorem OwnL.at {p : Addr} {m : MO} (hk : ∀ a m, a ≠ p → HasO K S H a m → HasO K S2 H2 a m) (hm : HasO K S2 H2 p m) : ∀ {as : List Addr} {M : List MO} {k : Nat}, as.Nodup → OwnL K S H as M → as[k]? = some p → OwnL K S2 H2 as (M.set k m)
  | [], _, _, _, _, h => by simp at h
  | _ :: _, [], _, _, h, _ => h.elim
  | b :: as, m0 :: ms, 0, nd, ⟨h1, h2⟩, h => by
    cases (Option.some.inj h)
    refine ⟨hm, ?_⟩
    have nd' := (List.nodup_cons.mp nd).1
    clear h1 nd h
    revert h2 nd'
    induction as generalizing ms with
    | nil => intro h2 _; cases ms with
      | nil => exact trivial
      | cons _ _ => exact h2.elim
    | cons a r ih =>
      intro h2 nd'
      cases ms with
      | nil => exact h2.elim
      | cons m1 ms =>
        exact ⟨hk a m1 (fun e => nd' (e ▸ List.mem_cons_self)) h2.1, ih ms h2.2 fun z => nd' (List.mem_cons_of_mem _ z)⟩
  | b :: as, m0 :: ms, i + 1, nd, ⟨h1, h2⟩, h => by
    have h' : as[i]? = some p := by simpa using h
    refine ⟨hk b m0 ?_ h1, OwnL.at hk hm (List.nodup_cons.mp nd).2 h2 h'⟩
    rintro rfl
    exact (List.nodup_cons.mp nd).1 (List.mem_of_getElem? h')
theorem EnvR.era {p : Addr} (hp : NotSq S p) : ∀ {env : List Slot} {σ : L2.St}, EnvR K S as env σ → EnvR K (era S p) as env σ
  | [], [], _ => trivial
  | [], _ :: _, h => h.elim
  | _ :: _, [], h => h.elim
  | s :: r, o :: t, ⟨h1, h2⟩ => by
    refine ⟨?_, EnvR.era hp h2⟩
    cases s with
    | un => exact h1
    | dat d => obtain ⟨v, e, h⟩ := h1; exact ⟨v, e, h.era hp⟩
    | ptr k => exact h1
end
/-- the same outcome, the dict free again -/
def unlk (k : Nat) (kvs : List (Key × D)) : Out → Out
  | .nx e M => .nx e (M.set k (.md kvs)) | .bk e M => .bk e (M.set k (.md kvs)) | .ct e M => .ct e (M.set k (.md kvs))
  | .rt d M => .rt d (M.set k (.md kvs)) | .rn j M => .rn j (M.set k (.md kvs)) | .xx c e M => .xx c e M
def lkd (k : Nat) (kvs : List (Key × D)) : Out → Prop
  | .nx _ M => M[k]? = some (.lk kvs) | .bk _ M => M[k]? = some (.lk kvs) | .ct _ M => M[k]? = some (.lk kvs)
  | .rt _ M => M[k]? = some (.lk kvs) | .rn _ M => M[k]? = some (.lk kvs) | .xx _ _ _ => False
theorem pss_lock {X : Cx} {st : List Stmt} {t : TS} (h : PSs X st t) : PSs X st (tLock t) := by
  refine ⟨fun pins s σ H D I hw => ?_⟩
  obtain ⟨d, u, hd, mu, hw⟩ := hw
  obtain ⟨od, I1⟩ := I.lock hd mu
  refine thn (h.run pins s σ _ _ I1 (hw od)) fun f s1 q => ?_
  cases f with
  | next => obtain ⟨σ', H', I2, e, q⟩ := q; exact ⟨σ', _, I2.unlock e (I.nofrz hd mu), q⟩
  | brk => obtain ⟨σ', H', I2, e, q⟩ := q; exact ⟨σ', _, I2.unlock e (I.nofrz hd mu), q⟩
  | cont => obtain ⟨σ', H', I2, e, q⟩ := q; exact ⟨σ', _, I2.unlock e (I.nofrz hd mu), q⟩
  | ret v => obtain ⟨x, σ', H', I2, r, e, q⟩ := q; exact ⟨x, σ', _, I2.unlock e (I.nofrz hd mu), r, q⟩
section
variable {X : Cx} {E : WK} {env : List Slot} {M : List MO} {PX : Value → Prop} {a b c e ix o : Expr} {rest : List Stmt} {pos p : Pos} {P : Out → Prop} {i j k : Nat} {kvs : List (Key × D)}
theorem ss_lock (hm : M[k]? = some (.md kvs)) (h : BS X E env (M.set k (.lk kvs)) rest fun o => lkd k kvs o ∧ P (unlk k kvs o)) : BS X E env M rest P := by
  refine PSs.imp (pss_lock h) fun Dn σ H ⟨S, as, ok, en, kk⟩ => ?_
  obtain ⟨d, hd, hS, vs, hv, r⟩ := ok.own.get hm
  refine ⟨d, .dK vs, hv, trivial, fun od => ?_⟩
  have hk : k < M.length := (List.getElem?_eq_some_iff.mp hm).1
  have e1 : Ex S (upd S d (.frz od (.dK vs))) := Ex.new hS
  have ok1 : Ok X.K (upd S d (.frz od (.dK vs))) as (M.set k (.lk kvs)) (upd H d (.frz od (.dK vs))) := by
    refine ⟨fun a o q => ?_, ok.nd, OwnL.at (m := .lk kvs) (fun a m ha hh => HasO.keep hh e1 (fun o q => by rw [upd_ne ha]; exact q) fun q1 q2 => absurd q2 (by rw [upd_ne ha] at q1; exact q1)) ⟨od, vs, upd_same, upd_same, r.mono e1⟩ ok.nd ok.own hd⟩
    by_cases ha : a = d
    · subst ha; rw [upd_same] at q ⊢; exact q
    · rw [upd_ne ha] at q ⊢; exact ok.ex a o q
  refine ⟨_, as, ok1, en.ex e1, fun o po => ?_⟩
  obtain ⟨hl, po⟩ := po
  have ho := kk _ po
  -- what comes back, the dict free again
  have back : ∀ (S2 : Hp) (ns : List Addr) (M' : List MO) (H2 : Hp), M'[k]? = some (.lk kvs) → Post as (upd S d (.frz od (.dK vs))) (upd H d (.frz od (.dK vs))) S2 H2 → (∀ a ∈ ns, upd H d (.frz od (.dK vs)) a = none) → Ok X.K S2 (as ++ ns) M' H2 →
      NotSq S2 d ∧ H2 d = some (.frz od (.dK vs)) ∧ Post as S H (era S2 d) (upd H2 d (.dK vs)) ∧ (∀ a ∈ ns, H a = none) ∧ Ok X.K (era S2 d) (as ++ ns) (M'.set k (.md kvs)) (upd H2 d (.dK vs)) := fun S2 ns M' H2 hM p2 fr ok2 => by
    have hS2 : S2 d = some (.frz od (.dK vs)) := p2.ex _ _ upd_same
    have hn : NotSq S2 d := ⟨od, vs, hS2⟩
    have hH2 := ok2.ex _ _ hS2
    have hd2 : (as ++ ns)[k]? = some d := by rw [List.getElem?_append_left (List.getElem?_eq_some_iff.mp hd).1]; exact hd
    have hkd : RepKV X.K S2 kvs vs := by
      obtain ⟨b, hb, od', vs', q1, q2, q3⟩ := ok2.own.get hM
      obtain rfl : b = d := Option.some.inj (hb.symm.trans hd2)
      rw [hS2] at q1
      cases q1
      exact q3
    refine ⟨hn, hH2, ⟨fun a o q => ?_, fun a o q1 q2 => ?_, fun a q => ?_, fun a q1 q2 => ?_⟩, fun a ha => ?_, ⟨fun a o q => ?_, ok2.nd, OwnL.at (m := .md kvs) (fun a m ha hh => hh.era hn ha) ⟨era_same, vs, upd_same, hkd.era hn⟩ ok2.nd ok2.own hd2⟩⟩
    · have ha : a ≠ d := by rintro rfl; rw [hS] at q; cases q
      rw [era_ne ha]
      exact p2.ex a o (by rw [upd_ne ha]; exact q)
    · have ha : a ≠ d := by rintro rfl; exact q2 (List.mem_of_getElem? hd)
      rw [upd_ne ha]
      exact p2.keep a o (by rw [upd_ne ha]; exact q1) q2
    · by_cases ha : a = d
      · subst ha; rw [upd_same]; exact fun z => nomatch z
      · rw [upd_ne ha]; exact p2.dom a (by rw [upd_ne ha]; exact q)
    · have ha : a ≠ d := by rintro rfl; exact q1 era_same
      have := p2.new a (by rw [era_ne ha] at q1; exact q1) (by rw [upd_ne ha]; exact q2)
      rwa [upd_ne ha] at this
    · have := fr a ha
      have hne : a ≠ d := by rintro rfl; rw [upd_same] at this; cases this
      rwa [upd_ne hne] at this
    · have ha : a ≠ d := by rintro rfl; rw [era_same] at q; cases q
      rw [upd_ne ha]
      exact ok2.ex a o (by rw [era_ne ha] at q; exact q)
  cases o with
  | nx env' M' => exact fun σ' S2 ns H2 p2 fr ok2 en2 => let ⟨q1, q2, q3, q4, q5⟩ := back S2 ns M' H2 hl p2 fr ok2; ⟨q2, ho σ' _ ns _ q3 q4 q5 (en2.era q1)⟩
  | bk env' M' => exact fun σ' S2 ns H2 p2 fr ok2 en2 => let ⟨q1, q2, q3, q4, q5⟩ := back S2 ns M' H2 hl p2 fr ok2; ⟨q2, ho σ' _ ns _ q3 q4 q5 (en2.era q1)⟩
  | ct env' M' => exact fun σ' S2 ns H2 p2 fr ok2 en2 => let ⟨q1, q2, q3, q4, q5⟩ := back S2 ns M' H2 hl p2 fr ok2; ⟨q2, ho σ' _ ns _ q3 q4 q5 (en2.era q1)⟩
  | rt d' M' => exact fun v S2 ns H2 p2 fr ok2 rd => let ⟨q1, q2, q3, q4, q5⟩ := back S2 ns M' H2 hl p2 fr ok2; ⟨q2, ho v _ ns _ q3 q4 q5 (rd.era q1)⟩
  | rn j M' => exact fun a S2 ns H2 p2 fr ok2 ha => let ⟨q1, q2, q3, q4, q5⟩ := back S2 ns M' H2 hl p2 fr ok2; ⟨q2, ho a _ ns _ q3 q4 q5 ha⟩
  | xx c env' M' => exact hl.elim
/-- for x in d -/
theorem i_keys {tg : Expr} (h : PE X e (tVar i)) (hei : env[i]? = some (.ptr k)) (hm : M[k]? = some (.lk kvs)) : IV X E env M tg e (· = kvs.map fun kv => kD kv.1) PX :=
  PI.imp (pi_keys h) fun σ H R ⟨S, as, ok, en, kk, x⟩ => by
    obtain ⟨o1, ho, s⟩ := en.get hei
    obtain ⟨q, hq, rfl⟩ := s
    obtain ⟨b, hb, od, vs, hS, hH, r⟩ := ok.own.get hm
    obtain rfl : b = q := Option.some.inj (hb.symm.trans hq)
    have hl : (kvs.map fun kv => kD kv.1).length = vs.length := by rw [List.length_map, ← r.length]
    refine ⟨_, ho, b, od, rfl, .inl ⟨vs, hH, kk _ _ S H rfl Post.refl ok ⟨_, _, hl ▸ walk_keys, fun H e => e _ _ hS, fun i S' H x H' hi e1 e2 y => ?_⟩⟩⟩
    obtain ⟨rfl, key, v, hkv, rfl⟩ := y
    have hk : kvs[i]?.map (·.1) = some key := by
      have := congrArg (·[i]?) r.keys
      simp only [List.getElem?_map, hkv] at this
      rw [← this]; rfl
    refine ⟨S', kD key, ?_, Ex.refl _, e2, Ex.refl _, fun a h1 h2 => absurd h2 h1, kD_rep key⟩
    rw [List.getElem?_map]
    cases hkk : kvs[i]? with
    | none => rw [hkk] at hk; cases hk
    | some kv => rw [hkk] at hk; cases hk; rfl
/-- sorted(d) -/
theorem e_sortedS {Pe : D → Prop} {ks : List Str} (hc : X.calm = true) (hg : Gl X "sorted") (hmg : X.mg "sorted" = none) (h : PE X e (tVar i)) (hei : env[i]? = some (.ptr k)) (hm : DictAt M k kvs) (hk : kvs.map (·.1) = ks.map Sum.inr) (hl : ks.length < 64) (hP : ∀ ys : List Str, ys.Perm ks → sortedS ys = true → Pe (.lst (ys.map .str)))
    (he : starEach [e] X.env = (false, eval e X.env) :: starEach [] X.env := by rfl) (hpl : (backTo pos (starEach [] X.env)).any (·.1) = false := by rfl) : EV X E env M (.Call (.Name "sorted" p) [e] [] pos) Pe PX :=
  PE.imp (pe_callB (call_sortedD hc) hg hmg boot_sorted (pa_cons h pa_nil he) (by decide) (by decide) he hpl) fun σ H Q ⟨S, as, ok, en, kk, x⟩ => by
    obtain ⟨o1, ho, s⟩ := en.get hei
    obtain ⟨q, hq, rfl⟩ := s
    obtain ⟨vs, hv, r⟩ := ok.dictR hq hm
    refine ⟨_, ho, q, vs, ks, rfl, hv, by rw [r.keys, hk], hl, fun ys p h1 h2 hp => (tP.gives ok Post.refl kk).lst ok.ex hp (hP ys h1 h2) ?_⟩
    clear h1 h2
    induction ys with
    | nil => exact RepL.nil
    | cons y t ih => exact RepL.cons rfl ih
theorem e_sortedI {Pe : D → Prop} {ks : List Int} (hc : X.calm = true) (hg : Gl X "sorted") (hmg : X.mg "sorted" = none) (h : PE X e (tVar i)) (hei : env[i]? = some (.ptr k)) (hm : DictAt M k kvs) (hk : kvs.map (·.1) = ks.map Sum.inl) (hl : ks.length < 64) (hP : ∀ ys : List Int, ys.Perm ks → ys.Pairwise (· ≤ ·) → Pe (.lst (ys.map .int)))
    (he : starEach [e] X.env = (false, eval e X.env) :: starEach [] X.env := by rfl) (hpl : (backTo pos (starEach [] X.env)).any (·.1) = false := by rfl) : EV X E env M (.Call (.Name "sorted" p) [e] [] pos) Pe PX :=
  PE.imp (pe_callB (call_sortedDI hc) hg hmg boot_sorted (pa_cons h pa_nil he) (by decide) (by decide) he hpl) fun σ H Q ⟨S, as, ok, en, kk, x⟩ => by
    obtain ⟨o1, ho, s⟩ := en.get hei
    obtain ⟨q, hq, rfl⟩ := s
    obtain ⟨vs, hv, r⟩ := ok.dictR hq hm
    refine ⟨_, ho, q, vs, ks, rfl, hv, by rw [r.keys, hk], hl, fun ys p h1 h2 hp => (tP.gives ok Post.refl kk).lst ok.ex hp (hP ys h1 h2) ?_⟩
    clear h1 h2
    induction ys with
    | nil => exact RepL.nil
    | cons y t ih => exact RepL.cons rfl ih
end
end DL

set_option Elab.async false
set_option linter.all false
set_option maxRecDepth 100000
set_option maxHeartbeats 4000000
namespace DL
open PySem PySem.Spec PyProof.Rows L2 Evl
theorem _root_.L2.Room.u1 {k : Nat} {A : Around} (r : Room k A) : A.units + 1 < cLine := by have := r.units; omega
/-- data of bounded depth, all of it of at most so many -/
inductive NB (b : Nat) : Nat → D → Prop
  | non {n} : NB b n .non
  | bl {n x} : NB b n (.bl x)
  | int {n i} : NB b n (.int i)
  | str {n z} : z.length ≤ b → PyData.strOk z = true → NB b n (.str z)
  | tup {n ds} : ds.length ≤ b → (∀ d ∈ ds, NB b n d) → NB b (n + 1) (.tup ds)
  | lst {n ds} : ds.length ≤ b → (∀ d ∈ ds, NB b n d) → NB b (n + 1) (.lst ds)
theorem NB.mono {b b' : Nat} (hb : b ≤ b') {n : Nat} {d : D} (h : NB b n d) : ∀ {n'}, n ≤ n' → NB b' n' d := by
  induction h with
  | non => exact fun _ => .non
  | bl => exact fun _ => .bl
  | int => exact fun _ => .int
  | str h1 h2 => exact fun _ => .str (by omega) h2
  | tup h1 h2 ih =>
    intro n' hn
    obtain ⟨m, rfl⟩ : ∃ m, n' = m + 1 := ⟨n' - 1, by omega⟩
    exact .tup (by omega) fun d hd => ih d hd (by omega)
  | lst h1 h2 ih =>
    intro n' hn
    obtain ⟨m, rfl⟩ : ∃ m, n' = m + 1 := ⟨n' - 1, by omega⟩
    exact .lst (by omega) fun d hd => ih d hd (by omega)
theorem NB.nice {b : Nat} (hb : b ≤ 4000) {n : Nat} {d : D} (h : NB b n d) : Nice n d := by
  induction h with
  | @non n => cases n <;> rfl
  | @bl n => cases n <;> rfl
  | @int n => cases n <;> rfl
  | str h1 h2 => exact nice_str (by omega) h2
  | tup h1 h2 ih => exact nice_tup (by omega) ih
  | lst h1 h2 ih => exact nice_lst (by omega) ih
theorem NB.items {b n : Nat} {ds : List D} (h : NB b n (.tup ds)) : ∃ m, n = m + 1 ∧ ds.length ≤ b ∧ ∀ d ∈ ds, NB b m d := by
  cases h with
  | tup h1 h2 => exact ⟨_, rfl, h1, h2⟩
theorem NB.itemsL {b n : Nat} {ds : List D} (h : NB b n (.lst ds)) : ∃ m, n = m + 1 ∧ ds.length ≤ b ∧ ∀ d ∈ ds, NB b m d := by
  cases h with
  | lst h1 h2 => exact ⟨_, rfl, h1, h2⟩
theorem NB.str' {b n : Nat} {z : Str} (h : NB b n (.str z)) : z.length ≤ b ∧ PyData.strOk z = true := by
  cases h with
  | str h1 h2 => exact ⟨h1, h2⟩
section
variable {X : Cx} {E : WK} {env : List Slot} {M : List MO} {PX : Value → Prop} {a b c e : Expr} {es : List Expr} {pos p : Pos} {P : D → Prop}
/-- tuple(xs) of a list, list(xs) -/
theorem e_tupleL {P1 : List D → Prop} (hg : Gl X "tuple") (hm : X.mg "tuple" = none) (ha : EV X E env M a (fun d => ∃ ds, d = .lst ds ∧ P1 ds) PX) (h : ∀ ds, P1 ds → P (.tup ds)) (he : starEach [a] X.env = (false, eval a X.env) :: starEach [] X.env := by rfl) (hpl : (backTo pos (starEach [] X.env)).any (·.1) = false := by rfl) : EV X E env M (.Call (.Name "tuple" p) [a] [] pos) P PX :=
  e_callTy call_tuple_of hg hm (by decide +kernel) (d_cons ha d_nil he) (fun l ⟨d, r, e, ⟨ds, e2, q⟩, e3⟩ => by rw [e, e2, e3]; exact fnc_tupleL (h ds q)) (by decide) (by decide) he hpl
end
end DL

set_option Elab.async false
set_option linter.all false
set_option maxRecDepth 100000
set_option maxHeartbeats 4000000
namespace DL
open PySem PySem.Spec PyProof.Rows L2 Evl
theorem letters_ok {z : Str} (h : Letters z) : PyData.strOk z = true := by
  unfold PyData.strOk
  rw [← Array.all_toList, List.all_eq_true]
  intro c hc
  exact decide_eq_true (by have := h c hc; omega)
def GoodW (z : Str) : Prop := z.length ≤ 8 ∧ Letters z
theorem GoodW.nb {z : Str} (h : GoodW z) {b n : Nat} (hb : 8 ≤ b) : NB b n (.str z) := .str (by have := h.1; omega) (letters_ok h.2)
abbrev RCols (ds : List D) (Pf : D → Prop) : Prop := ∃ m l : Int, ds = [.int m, .int l] ∧ 0 < m ∧ m ≤ 50 ∧ 0 < l ∧ l ≤ 50 ∧ Pf = fun d => ∃ cs : List D, d = .tup cs ∧ NB 60 4 d
section
variable {X : Cx} {E : WK} {env : List Slot} {M : List MO} {PX : Value → Prop} {a : Expr} {pos p : Pos} {i k j : Nat}
theorem e_word {ps : List Str} (h : Has X.prog X.w X.K X.mg X.base CX0 "_law_word" ps k (spW X.K RWord)) (hr : Room k X.A) (hg : Gl X "_law_word") (hw : PE X a (tVar i)) (hei : env[i]? = some (.ptr j)) (hj : M[j]? = some .well)
    (he : starEach [a] X.env = (false, eval a X.env) :: starEach [] X.env := by rfl) (hpl : (backTo pos (starEach [] X.env)).any (·.1) = false := by rfl) : EV X E env M (.Call (.Name "_law_word" p) [a] [] pos) (fun d => ∃ z, d = .str z ∧ GoodW z) PX :=
  e_callW h hr hg (a_ptr hw hei d_nil he) hj (fun sl ⟨r, e1, ds, e2, e3⟩ => ⟨[], _, by rw [e1, e2, e3], ⟨rfl, rfl⟩, fun d q => q⟩) (by decide) he hpl
end
theorem nb_pair {b n : Nat} {x y : D} (hx : NB b n x) (hy : NB b n y) (hb : 2 ≤ b := by decide) : NB b (n + 1) (.tup [x, y]) := .tup hb fun d hd => by
  simp only [List.mem_cons, List.not_mem_nil, or_false] at hd
  rcases hd with rfl | rfl
  · exact hx
  · exact hy
theorem keys_inr : ∀ {ks : List Key}, (∀ q ∈ ks, ∃ z, q = Sum.inr z ∧ GoodW z) → ∃ zs : List Str, ks = zs.map Sum.inr ∧ ∀ z ∈ zs, GoodW z
  | [], _ => ⟨[], rfl, fun _ h => nomatch h⟩
  | q :: r, h => by
    obtain ⟨zs, e, hz⟩ := keys_inr (ks := r) fun q hq => h q (List.mem_cons_of_mem _ hq)
    obtain ⟨z, e2, hg⟩ := h q List.mem_cons_self
    exact ⟨z :: zs, by rw [e, e2]; rfl, fun y hy => (List.mem_cons.mp hy).elim (fun e => e ▸ hg) (hz y)⟩
theorem keys_inl : ∀ {ks : List Key}, (∀ q ∈ ks, ∃ i : Int, q = Sum.inl i) → ∃ zs : List Int, ks = zs.map Sum.inl
  | [], _ => ⟨[], rfl⟩
  | q :: r, h => by
    obtain ⟨zs, e⟩ := keys_inl (ks := r) fun q hq => h q (List.mem_cons_of_mem _ hq)
    obtain ⟨z, e2⟩ := h q List.mem_cons_self
    exact ⟨z :: zs, by rw [e, e2]; rfl⟩
end DL
namespace K
open PySem PySem.Spec PyProof.Rows L2 Evl DL
section
variable {P : Program} {w : World} {K : PySem.W.Frag} {mg : Str → Option Value} {base : Heap}
theorem law_columns (h : Df K mg "_law_columns" s__law_columns) (B : Bl mg) (h1 : Has P w K mg base CX0 "_law_take" p__law_take 1 (spW K RTake)) (h2 : Has P w K mg base CX0 "_law_word" p__law_word 2 (spW K RWord)) : Has P w K mg base CX0 "_law_columns" p__law_columns 3 (spW K RCols) := by
  refine hasW h sc__law_columns bn__law_columns (by rintro ds Pf ⟨m, l, rfl, _⟩; rfl) ?_
  rintro f cdv A outer s H E hr ds Pf ⟨m, l, rfl, hm0, hm1, hl0, hl1, rfl⟩
  have nd := sc__law_columns.nd
  refine ss_setN (i := 3) (PX := N0) nd rfl (.inl rfl) n_dict ?_ fun c z => z.elim
  rintro _ rfl
  refine ss_for (PX := N0) (Pd := fun ds => ds.length ≤ 51) (asg := as1 4) (passes_of rfl) rfl (i_upto (C := fun i => 1 ≤ i ∧ i ≤ 50) rfl B.range (i_add (Ca := (· = 1)) (i_int rfl) (i_take (B := 50) (h1.mono (by decide)) hr rfl (pv 0) rfl rfl (IE.of (e_slot (pv 1) rfl) ⟨hm0, hm1⟩) (by decide)) fun i j e hj => by subst e; exact (show 1 ≤ 1 + j ∧ 1 + j ≤ 50 by omega)) fun i hi => ⟨by omega, by omega, by rw [upFrom_len]; omega⟩) (pg_name (i := 4) nd rfl (.inl rfl)) tg1 ?_ fun c z => z.elim
  intro ds hds
  refine Loop.ind (fun n env M => ∃ kvs s4, env = [.ptr 0, .dat (.int m), .dat (.int l), .ptr 1, s4, .un, .un, .un, .un, .un] ∧ M = [.well, .md kvs] ∧ kvs.length ≤ n ∧ ∀ q ∈ kvs.map (·.1), ∃ z, q = Sum.inr z ∧ GoodW z) ⟨[], _, rfl, rfl, Nat.le_refl _, fun _ h => nomatch h⟩ ?_ ?_
  · rintro _ _ ⟨kvs, s4, rfl, rfl, hk, hkey⟩
    have hkl : kvs.length ≤ 51 := by omega
    refine ss_setN (i := 5) (PX := N0) nd rfl (.inl rfl) (n_lstD (ds := []) d_nil (by decide)) ?_ fun c z => z.elim
    rintro _ rfl
    refine ss_lock (k := 1) (kvs := kvs) rfl ?_
    refine ss_for (PX := N0) (Pd := (· = kvs.map fun kv => kD kv.1)) (asg := as1 6) (passes_of rfl) rfl (i_keys (k := 1) (kvs := kvs) (pv 3) rfl rfl) (pg_name (i := 6) nd rfl (.inl rfl)) tg1 ?_ fun c z => z.elim
    rintro _ rfl
    refine Loop.ind (fun n env M => ∃ cs N s4 s6 s7 s8 s9, env = [.ptr 0, .dat (.int m), .dat (.int l), .ptr 1, s4, .ptr 2, s6, s7, s8, s9] ∧ M = .well :: .lk kvs :: .ml cs :: N ∧ cs.length ≤ n ∧ ∀ c ∈ cs, NB 60 2 c) ⟨[], [], _, _, _, _, _, rfl, rfl, Nat.le_refl _, fun _ h => nomatch h⟩ ?_ ?_
    · rintro _ _ ⟨cs, N, s4, s6, s7, s8, s9, rfl, rfl, hc, hcs⟩
      rw [List.length_map] at hc
      refine ss_ret (P1 := (· = .tup cs)) (PX := N0) (q_tupleP (k := 2) rfl B.tuple (x_ptr (pv 5) rfl) rfl) (fun d e => ⟨rfl, ⟨cs, e, ?_⟩, rfl⟩) fun c z => z.elim
      rw [e]; exact .tup (by omega) fun c hc => (hcs c hc).mono (by decide) (by decide)
    · rintro n d hd _ _ ⟨cs, N, s4, s6, s7, s8, s9, rfl, rfl, hc, hcs⟩
      have hn : n < kvs.length := by have := (List.getElem?_eq_some_iff.mp hd).1; rwa [List.length_map] at this
      obtain ⟨nm, rfl, hnm⟩ : ∃ nm, d = .str nm ∧ GoodW nm := by
        rw [List.getElem?_map, List.getElem?_eq_getElem hn] at hd
        obtain ⟨z, e, g⟩ := hkey kvs[n].1 (List.mem_map.mpr ⟨_, List.getElem_mem hn, rfl⟩)
        have := Option.some.inj hd
        rw [← this]
        exact ⟨z, by show kD kvs[n].1 = _; rw [e]; rfl, g⟩
      refine ⟨_, rfl, ?_⟩
      refine ss_setN (i := 7) (PX := N0) nd rfl (.inl rfl) n_dict ?_ fun c z => z.elim
      rintro _ rfl
      refine ss_set (i := 8) (P1 := fun d => ∃ i, d = .int i ∧ 0 ≤ i ∧ i < 3) (PX := N0) nd rfl (.inl rfl) (i_take (B := 3) (h1.mono (by decide)) hr rfl (pv 0) rfl rfl (i_int (by decide)) (by decide)) ?_ fun c z => z.elim
      rintro _ ⟨kind, rfl, hk0, hk3⟩
      refine ss_set (i := 9) (P1 := fun d => ∃ i, d = .int i ∧ 0 < i ∧ i ≤ 100) (PX := N0) nd rfl (.inl rfl) (e_pick (n := 3) (EV.mono (q_lstD (ds := [.int 5, .int 9, .int 100]) (DV.co e_int (DV.co e_int (DV.co e_int d_nil))) (by decide)) fun d e => ⟨_, e, rfl, ?_⟩) (i_take (B := 3) (h1.mono (by decide)) hr rfl (pv 0) rfl rfl (i_int (by decide)) (by decide))) ?_ fun c z => z.elim
      · intro x hx
        simp only [List.mem_cons, List.not_mem_nil, or_false] at hx
        rcases hx with rfl | rfl | rfl <;> exact ⟨_, rfl, by decide, by decide⟩
      rintro _ ⟨far, rfl, hf0, hf1⟩
      have hlast : ∀ m : MO, ((MO.well :: .lk kvs :: .ml cs :: N) ++ [m])[(MO.well :: .lk kvs :: .ml cs :: N).length]? = some m := fun m => by simp
      refine ss_for (PX := N0) (Pd := fun ds => ds.length ≤ 51) (asg := as1 4) (passes_of rfl) rfl (i_upto (C := fun i => 1 ≤ i ∧ i ≤ 50) rfl B.range (i_add (Ca := (· = 1)) (i_int rfl) (i_take (B := 50) (h1.mono (by decide)) hr rfl (pv 0) rfl rfl (IE.of (e_slot (pv 2) rfl) ⟨hl0, hl1⟩) (by decide)) fun i j e hj => by subst e; exact (show 1 ≤ 1 + j ∧ 1 + j ≤ 50 by omega)) fun i hi => ⟨by omega, by omega, by rw [upFrom_len]; omega⟩) (pg_name (i := 4) nd rfl (.inl rfl)) tg1 ?_ fun c z => z.elim
      intro ds2 hds2
      refine Loop.ind (fun n env M => ∃ vals s4, env = [.ptr 0, .dat (.int m), .dat (.int l), .ptr 1, s4, .ptr 2, .dat (.str nm), .ptr (MO.well :: .lk kvs :: .ml cs :: N).length, .dat (.int kind), .dat (.int far)] ∧ M = (MO.well :: .lk kvs :: .ml cs :: N) ++ [.md vals] ∧ vals.length ≤ n ∧ (kind = 0 → ∀ q ∈ vals.map (·.1), ∃ z, q = Sum.inr z ∧ GoodW z) ∧ (kind ≠ 0 → ∀ q ∈ vals.map (·.1), ∃ i, q = Sum.inl i)) ⟨[], _, rfl, rfl, Nat.le_refl _, (fun _ _ h => nomatch h), fun _ _ h => nomatch h⟩ ?_ ?_
      · rintro _ _ ⟨vals, s4, rfl, rfl, hv, hv0, hv1⟩
        refine ss_meth (i := 5) (k := 2) (ds := cs) (ds' := []) (PX := N0) (Pa := fun l => ∃ c, l = [c] ∧ NB 60 2 c) PySem.F.slot_list_append PySem.F.type_list_append mt_append (pv 5) rfl rfl (DV.mono (d_cons (e_tup (P1 := fun l => ∃ vs, l = [.str nm, .tup vs] ∧ NB 60 1 (.tup vs)) (P := NB 60 2) (DV.mono (d_cons (e_slot (pv 6) rfl) (d_cons (P1 := fun d => ∃ vs, d = .tup vs ∧ NB 60 1 (.tup vs)) (e_tupleL (P1 := fun vs => NB 60 1 (.tup vs)) rfl B.tuple ?_ fun ds h => ⟨ds, rfl, h⟩) d_nil))
          fun l ⟨d1, r1, e1, e2, d2, r2, e3, ⟨vs, e4, hn⟩, e5⟩ => ⟨vs, by rw [e1, e2, e3, e4, e5], hn⟩) fun l ⟨vs, e, hn⟩ => ⟨by rw [e]; show 2 ≤ 100000; omega, by rw [e]; exact nb_pair (hnm.nb (by decide)) hn⟩) d_nil) fun l ⟨d1, r1, e1, e2, e3⟩ => ⟨d1, by rw [e1, e3], e2⟩) ?_ fun c z => z.elim
        · by_cases hk : kind = 0
          · obtain ⟨zs, hz, hg⟩ := keys_inr (hv0 hk)
            have hzl : zs.length = vals.length := by have := congrArg List.length hz; simpa using this.symm
            refine e_sortedS (ks := zs) (i := 7) (k := (MO.well :: .lk kvs :: .ml cs :: N).length) (kvs := vals) rfl rfl B.sorted (pv 7) rfl (.inl (hlast _)) hz (by omega) fun ys hp _ => ⟨_, rfl, .tup (by rw [List.length_map, hp.length_eq]; omega) fun d hd => ?_⟩
            obtain ⟨z, hz, rfl⟩ := List.mem_map.mp hd
            exact (hg z (hp.mem_iff.mp hz)).nb (by decide)
          · obtain ⟨zs, hz⟩ := keys_inl (hv1 hk)
            have hzl : zs.length = vals.length := by have := congrArg List.length hz; simpa using this.symm
            refine e_sortedI (ks := zs) (i := 7) (k := (MO.well :: .lk kvs :: .ml cs :: N).length) (kvs := vals) rfl rfl B.sorted (pv 7) rfl (.inl (hlast _)) hz (by omega) fun ys hp _ => ⟨_, rfl, .tup (by rw [List.length_map, hp.length_eq]; omega) fun d hd => ?_⟩
            obtain ⟨z, hz, rfl⟩ := List.mem_map.mp hd
            exact .int
        · rintro ys ⟨c, rfl, hc2⟩
          refine ⟨_, lm_append (by omega), ss_nil ⟨cs ++ [c], N ++ [.md vals], _, _, _, _, _, rfl, rfl, by rw [List.length_append]; show cs.length + 1 ≤ n + 1; omega, fun d hd => ?_⟩⟩
          rcases List.mem_append.mp hd with hd | hd
          · exact hcs d hd
          · rw [List.mem_singleton.mp hd]; exact hc2
      · rintro n2 d2 hd2 _ _ ⟨vals, s4, rfl, rfl, hv, hv0, hv1⟩
        have hn2 : n2 < ds2.length := (List.getElem?_eq_some_iff.mp hd2).1
        refine ⟨_, rfl, ?_⟩
        refine ss_putD (i := 7) (k := (MO.well :: .lk kvs :: .ml cs :: N).length) (kvs := vals) (PX := N0) (Pd := (· = .bl true)) (Pk := fun q => (kind = 0 ∧ ∃ z, q = Sum.inr z ∧ GoodW z) ∨ kind ≠ 0 ∧ ∃ i, q = Sum.inl i) hr.u1 (pv 7) rfl (hlast _) ?_ (by omega) e_bl ?_ fun c z => z.elim
        · refine e_ix (Pa := fun d => ∃ z a b, d = .lst [.str z, .int a, .int b] ∧ GoodW z) (Pb := (· = .int kind)) ix_list (e_lst (P1 := fun l => ∃ z a b, l = [.str z, .int a, .int b] ∧ GoodW z) (DV.mono (d_cons (e_word (h2.mono (by decide)) hr rfl (pv 0) rfl rfl) (d_cons (i_take (B := 100) (h1.mono (by decide)) hr rfl (pv 0) rfl rfl (IE.of (e_slot (pv 9) rfl) ⟨hf0, hf1⟩) (by decide)) (d_cons (i_take (B := 100) (h1.mono (by decide)) hr rfl (pv 0) rfl rfl (IE.of (e_slot (pv 9) rfl) ⟨hf0, hf1⟩) (by decide)) d_nil)))
            fun l ⟨d1, r1, e1, ⟨z, e2, g⟩, d2, r2, e3, ⟨a, e4, _⟩, d3, r3, e5, ⟨b, e6, _⟩, e7⟩ => ⟨z, a, b, by rw [e1, e2, e3, e4, e5, e6, e7], g⟩) fun l ⟨z, a, b, e, g⟩ => ⟨by rw [e]; show 3 ≤ 100000; omega, z, a, b, by rw [e], g⟩) (e_slot (pv 8) rfl) (fun _ _ => rfl) ?_
          rintro _ _ ⟨z, a, b, rfl, g⟩ rfl
          obtain h0 | h0 | h0 : kind = 0 ∨ kind = 1 ∨ kind = 2 := by omega
          · rw [h0]; exact bin_ixL (d := .str z) rfl ⟨.inr z, rfl, .inl ⟨rfl, z, rfl, g⟩⟩
          · rw [h0]; exact bin_ixL (d := .int a) rfl ⟨.inl a, rfl, .inr ⟨by decide, a, rfl⟩⟩
          · rw [h0]; exact bin_ixL (d := .int b) rfl ⟨.inl b, rfl, .inr ⟨by decide, b, rfl⟩⟩
        rintro q _ hq rfl
        refine ss_nil ⟨putD vals q (.bl true), _, rfl, by simp, ?_, fun h0 q2 h2 => ?_, fun h0 q2 h2 => ?_⟩
        · have := putD_len vals q (.bl true); omega
        · rcases putD_key h2 with h3 | rfl
          · exact hv0 h0 q2 h3
          · exact (hq.resolve_right fun z => z.1 h0).2
        · rcases putD_key h2 with h3 | rfl
          · exact hv1 h0 q2 h3
          · exact (hq.resolve_left fun z => h0 z.1).2
  · rintro n d hd _ _ ⟨kvs, s4, rfl, rfl, hk, hkey⟩
    have hn : n < ds.length := (List.getElem?_eq_some_iff.mp hd).1
    refine ⟨_, rfl, ?_⟩
    refine ss_putD (i := 3) (k := 1) (PX := N0) (Pd := (· = .bl true)) (Pk := fun q => ∃ z, q = Sum.inr z ∧ GoodW z) hr.u1 (pv 3) rfl rfl (EV.mono (e_word (h2.mono (by decide)) hr rfl (pv 0) rfl rfl) fun d ⟨z, e, g⟩ => ⟨.inr z, e, z, rfl, g⟩) (by omega) e_bl ?_ fun c z => z.elim
    rintro q _ hq rfl
    refine ss_nil ⟨_, _, rfl, rfl, ?_, fun q2 h2 => ?_⟩
    · have := putD_len kvs q (.bl true); omega
    · rcases putD_key h2 with h3 | rfl
      · exact hkey q2 h3
      · exact hq
end
end K

set_option Elab.async false
set_option linter.all false
set_option maxRecDepth 100000
set_option maxHeartbeats 4000000
namespace K
open PySem PySem.Spec PyProof.Rows L2 Evl DL
section
variable {P : Program} {w : World} {K : PySem.W.Frag} {mg : Str → Option Value} {base : Heap}
theorem law_rows (h : Df K mg "_law_rows" s__law_rows) : Has P w K mg base CX0 "_law_rows" p__law_rows 1 (spN K RRows) := by
  refine hasN h sc__law_rows bn__law_rows (by rintro ds Pf ⟨cs, rfl, _⟩; rfl) ?_
  rintro f cdv A outer s H E hr ds Pf ⟨cs, rfl, hf, rfl⟩
  have nd := sc__law_rows.nd
  refine ss_setN (i := 1) (PX := N0) nd rfl (.inl rfl) (n_lstD (ds := [.tup []]) (DV.n1 q_tup0) (by decide)) ?_ fun c z => z.elim
  rintro _ rfl
  refine ss_for (PX := N0) (Pd := (· = cs.map colD)) (asg := as2 2 3) (passes_of rfl) rfl (i_tup (EV.mono (e_slot (pv 0) rfl) fun d e => ⟨_, e, rfl⟩)) (pg_tup rfl (pgs_cons (pg_name (i := 2) nd rfl (.inl rfl)) (pgs_cons (pg_name (i := 3) nd rfl (.inl rfl)) pgs_nil))) (tg2 (by decide)) ?_ (fun c z => z.elim)
  rintro _ rfl
  have hel : (cs.map colD).length = cs.length := List.length_map ..
  refine Loop.ind (fun n env M => ∃ s2 s3 s4 s5 s6 k, env = [.dat (colsD cs), .ptr k, s2, s3, s4, s5, s6] ∧ M[k]? = some (.ml ((allRows (cs.take n)).map rowD))) ⟨_, _, _, _, _, _, rfl, rfl⟩ ?_ ?_
  · rintro env M ⟨s2, s3, s4, s5, s6, k, rfl, hk⟩
    rw [hel, List.take_length] at hk
    exact ss_retP (pv 1) rfl ⟨_, hk, (fun z => nomatch z), rfl⟩
  · rintro n d hd _ M ⟨s2, s3, s4, s5, s6, k, rfl, hk⟩
    have hlt : n < cs.length := by rw [← hel]; exact (List.getElem?_eq_some_iff.mp hd).1
    have ed : d = .tup [.str cs[n].1, .tup cs[n].2] := by
      rw [List.getElem?_map, List.getElem?_eq_getElem hlt] at hd
      exact (Option.some.inj hd).symm
    subst ed
    refine ⟨_, ⟨_, _, rfl, rfl⟩, ?_⟩
    refine ss_setN (i := 4) (PX := N0) nd rfl (.inl rfl) (n_lstD (ds := []) d_nil (by decide)) ?_ fun c z => z.elim
    rintro _ rfl
    obtain ⟨b8, bl⟩ := hf.rows n (by omega)
    have b8 : (allRows (cs.take n)).length ≤ 512 := Nat.le_trans b8 (pow8 (by have := hf.few; omega))
    have sh := hf.short _ (List.getElem_mem hlt)
    have hkl : k < M.length := (List.getElem?_eq_some_iff.mp hk).1
    refine ss_forP (i := 1) (k := k) (ds := (allRows (cs.take n)).map rowD) (asg := as1 5) (passes_of rfl) rfl (pv 1) rfl (pg_name (i := 5) nd rfl (.inr rfl)) tg1 ?_
    refine LoopP.ind (fun i env M' => M'[k]? = some (.ml ((allRows (cs.take n)).map rowD)) ∧ ∃ s5 s6 j, env = [.dat (colsD cs), .ptr k, .dat (.str cs[n].1), .dat (.tup cs[n].2), .ptr j, s5, s6] ∧ M'[j]? = some (.ml ((longer ((allRows (cs.take n)).take i) cs[n].2).map rowD))) (fun i _ _ h => h.1) ⟨?_, _, _, _, rfl, ?_⟩ ?_ ?_
    · rw [List.getElem?_append_left hkl]; exact hk
    · simp [longer]
    · rintro _ _ ⟨_, s5, s6, j, rfl, hj⟩
      rw [List.length_map, List.take_length] at hj
      refine ss_copyP (i := 1) (j := 4) (k := j) nd rfl (.inl rfl) (pv 4) rfl (ss_nil ⟨_, _, _, _, _, _, rfl, ?_⟩)
      rw [allRows_take hlt]; exact hj
    · rintro i d hd _ M' ⟨hk', s5, s6, j, rfl, hj⟩
      have hil : i < (allRows (cs.take n)).length := by have := (List.getElem?_eq_some_iff.mp hd).1; rwa [List.length_map] at this
      rw [List.getElem?_map, List.getElem?_eq_getElem hil] at hd
      cases hd
      have hb : (longer ((allRows (cs.take n)).take i) cs[n].2).length ≤ 4096 := by
        rw [longer_len, List.length_take]
        exact Nat.le_trans (Nat.mul_le_mul (show _ ≤ 512 by omega) sh) (by decide)
      refine ⟨_, rfl, ?_⟩
      refine ss_setN (i := 4) (PX := N0) (P1 := (· = .ml ((longer ((allRows (cs.take n)).take (i + 1)) cs[n].2).map rowD))) nd rfl (.inl rfl) (n_catP (k := j) (Pe := (· = cs[n].2.map fun v => .tup ((allRows (cs.take n))[i] ++ [v]))) (x_ptr (pv 4) rfl) hj ?_ ?_) ?_ fun c z => z.elim
      · refine NV.mono (n_lcD (x := "_law_value") (i := 6) (ds := cs[n].2) (f := fun d => .tup ((allRows (cs.take n))[i] ++ [d])) rfl nd (i_tup (EV.mono (e_slot (pv 3) rfl) fun d e => ⟨_, e, rfl⟩)) (blkOk_by (N := N__law_rows) (sc := defScope s__law_rows) (by decide +kernel)) (fun _ _ _ _ _ => pg_name (i := 6) nd rfl (Or.inl rfl)) (by omega) ?_) fun m e => ⟨_, e, rfl⟩
        intro d hd s H C' cl fp
        exact q_row (e_slot (pv 5) rfl) (q_tup1 (e_slot (pv 6) rfl)) (by rw [bl _ (List.getElem_mem hil), List.length_singleton]; have := hf.few; omega)
      · rintro _ rfl
        refine ⟨by rw [List.length_map, List.length_map]; omega, ?_⟩
        rw [longer_take hil, List.map_append, List.map_map]
        rfl
      · rintro _ rfl
        refine ss_nil ⟨?_, _, _, _, rfl, ?_⟩
        · rw [List.getElem?_append_left (List.getElem?_eq_some_iff.mp hk').1]; exact hk'
        · simp
end
end K

set_option Elab.async false
set_option linter.all false
set_option maxRecDepth 100000
set_option maxHeartbeats 4000000
namespace DL
open PySem PySem.Spec PyProof.Rows L2 Evl
section
variable {X : Cx} {E : WK} {env : List Slot} {M : List MO} {PX : Value → Prop} {a b c e : Expr} {es : List Expr} {pos p : Pos} {i k j n : Nat} {Pe : D → Prop}
/-- a display, all of a kind -/
abbrev DVA (X : Cx) (E : WK) (env : List Slot) (M : List MO) (es : List Expr) (Pe : D → Prop) (n : Nat) (PX : Value → Prop) : Prop := DV X E env M es (fun l => l.length = n ∧ ∀ x ∈ l, Pe x) PX
theorem dva_nil : DVA X E env M [] Pe 0 PX := DV.mono d_nil fun l e => ⟨by rw [e]; rfl, fun x hx => by rw [e] at hx; cases hx⟩
theorem dva {es : List Expr} (ha : EV X E env M a Pe PX) (hr : DVA X E env M es Pe n PX) (hs : starEach (a :: es) X.env = (false, eval a X.env) :: starEach es X.env := by rfl) : DVA X E env M (a :: es) Pe (n + 1) PX :=
  DV.mono (d_cons ha hr hs) fun l ⟨d, r, e, p, q1, q2⟩ => ⟨by rw [e, List.length_cons, q1], fun x hx => by
    rw [e] at hx
    rcases List.mem_cons.mp hx with rfl | hx
    · exact p
    · exact q2 x hx⟩
theorem e_lstA (h : DVA X E env M es Pe n PX) (hn : n ≤ 100000) : EV X E env M (.List es pos) (fun d => ∃ l, d = .lst l ∧ l.length = n ∧ ∀ x ∈ l, Pe x) PX := e_lst h fun l q => ⟨by rw [q.1]; exact hn, l, rfl, q⟩
theorem n_lstA (h : DVA X E env M es Pe n PX) (hn : n ≤ 100000) : NV X E env M (.List es pos) (fun m => ∃ l, m = .ml l ∧ l.length = n ∧ ∀ x ∈ l, Pe x) PX := n_lst h fun l q => ⟨by rw [q.1]; exact hn, l, rfl, q⟩
theorem q_neg {i : Int} (h : EV X E env M a (· = .int i) PX) : EV X E env M (.UnaryOp .USub a pos) (· = .int (-i)) PX :=
  e_un un_neg h fun d e S H x Q ex rx g => by
    subst e
    exact ⟨i, rx, g.here (d := .int (-i)) ex rfl rfl⟩
theorem EV.nb {d : D} {m n : Nat} (h : EV X E env M a (· = d) PX) (q : NB m n d) : EV X E env M a (NB m n) PX := EV.mono h fun _ e => e ▸ q
end
abbrev RThing (n : Nat) (ds : List D) (Pf : D → Prop) : Prop := ds = [.int (n : Int)] ∧ Pf = NB 20 (n + 1)
end DL
namespace K
open PySem PySem.Spec PyProof.Rows L2 Evl DL
section
variable {P : Program} {w : World} {K : PySem.W.Frag} {mg : Str → Option Value} {base : Heap}
theorem law_thing (h : Df K mg "_law_thing" s__law_thing) (B : Bl mg) (h1 : Has P w K mg base CX0 "_law_take" p__law_take 1 (spW K RTake)) : ∀ n : Nat, Has P w K mg base CX0 "_law_thing" p__law_thing (n + 2) (spW K (RThing n)) := by
  have step : ∀ n : Nat, (∀ m, n = m + 1 → Has P w K mg base CX0 "_law_thing" p__law_thing (m + 2) (spW K (RThing m))) → Has P w K mg base CX0 "_law_thing" p__law_thing (n + 2) (spW K (RThing n)) := by
    intro n ih
    refine hasW h sc__law_thing bn__law_thing (by rintro ds Pf ⟨rfl, _⟩; rfl) ?_
    rintro f cdv A outer s H E hr ds Pf ⟨rfl, rfl⟩
    have nd := sc__law_thing.nd
    refine ss_set (i := 2) (P1 := fun d => ∃ i, d = .int i ∧ 0 ≤ i ∧ i < 9) (PX := N0) nd rfl (.inl rfl) (i_take (B := 9) (h1.mono (by omega)) hr rfl (pv 0) rfl rfl (i_int (by decide)) (by decide)) ?_ fun c z => z.elim
    rintro _ ⟨way, rfl, w0, w9⟩
    refine ss_ifret (P1 := (· = (decide (way < 6) || decide ((n : Int) = 0)))) (PX := N0) (t_w (t_or (t_lt (e_slot (pv 2) rfl) e_int) fun _ => t_or1 (t_eqI (e_slot (pv 1) rfl) e_int))) (fun hb => ?_) (fun hb => ?_) fun c z => z.elim
    · refine ss_setN (i := 4) (P1 := fun m => ∃ l, m = .ml l ∧ l.length = 16 ∧ ∀ x ∈ l, NB 20 n x) (PX := N0) nd rfl (.inl rfl) (n_lstA (dva (EV.nb e_int .int) (dva (EV.nb (q_neg e_int) .int) (dva (EV.nb e_int .int) (dva (EV.nb e_bl .bl) (dva (EV.nb e_bl .bl) (dva (EV.nb e_non .non) (dva (EV.nb e_str (.str (by decide) (by decide +kernel))) (dva (EV.nb e_str (.str (by decide) (by decide +kernel)))
        (dva (EV.nb e_str (.str (by decide) (by decide +kernel))) (dva (EV.nb e_str (.str (by decide) (by decide +kernel))) (dva (EV.nb e_str (.str (by decide) (by decide +kernel))) (dva (EV.nb e_str (.str (by decide) (by decide +kernel))) (dva (EV.nb e_int .int) (dva (EV.nb e_int .int) (dva (EV.nb (q_neg e_int) .int) (dva (EV.nb e_str (.str (by decide) (by decide +kernel))) dva_nil)))))))))))))))) (by decide)) ?_ fun c z => z.elim
      rintro _ ⟨l, rfl, hl, hp⟩
      refine ss_ret (P1 := NB 20 (n + 1)) (PX := N0) (e_pick (n := 18) (NV.frz (P := fun l => l.length = 18 ∧ ∀ x ∈ l, NB 20 (n + 1) x) (n_catP (k := 1) (ds := l) (Pe := fun l => l.length = 2 ∧ ∀ x ∈ l, NB 20 (n + 1) x) (x_ptr (pv 4) rfl) rfl (n_lstA (dva (EV.nb q_tup0 (.tup (by decide) fun _ h => nomatch h)) (dva (EV.nb (q_lstD d_nil (by decide)) (.lst (by decide) fun _ h => nomatch h)) dva_nil)) (by decide)) ?_)) (i_take (B := 18) (h1.mono (by omega)) hr rfl (pv 0) rfl rfl (i_int (by decide)) (by decide))) (fun d e => ⟨rfl, e, rfl⟩) fun c z => z.elim
      rintro l2 ⟨q1, q2⟩
      refine ⟨by omega, _, rfl, by rw [List.length_append]; omega, fun x hx => ?_⟩
      rcases List.mem_append.mp hx with hx | hx
      · exact (hp x hx).mono (Nat.le_refl _) (by omega)
      · exact q2 x hx
    · have hb2 : (decide (way < 6) || decide ((n : Int) = 0)) = false := hb.symm
      rw [Bool.or_eq_false_iff, decide_eq_false_iff_not, decide_eq_false_iff_not] at hb2
      obtain ⟨m, rfl⟩ : ∃ m, n = m + 1 := ⟨n - 1, by omega⟩
      have hm := ih m rfl
      refine ss_lc (i := 3) (own := [("_law_k", 5)]) (g := gName 5) (asg := as1 5) (PX := N0) (Pd := fun ds => ds.length ≤ 5) (Pt := fun _ b => b = true) (Pe := fun _ r => NB 20 (m + 1) r) rfl nd rfl rfl rfl (i_upto (C := fun i => 0 ≤ i ∧ i < 6) rfl B.range (i_take (B := 6) (h1.mono (by omega)) hr rfl (pv 0) rfl rfl (i_int (by decide)) (by decide)) fun i hi => ⟨by omega, by omega, by rw [upFrom_len]; omega⟩) (blkOk_by (N := N__law_thing) (sc := defScope s__law_thing) (by decide +kernel)) (fun _ _ _ _ _ => pg_name (i := 5) nd rfl (Or.inl rfl)) tg1 ⟨fun _ d _ _ => ⟨_, rfl⟩, fun ds e => by omega, ?_, fun _ _ _ _ _ _ _ _ _ _ _ => ts_nil rfl⟩ ?_ fun c z => z.elim
      · rintro ds d env' e hd _ rfl s H C cl fp
        exact e_callW hm (Room.mono hr (by omega)) rfl (a_ptr (pv 0) rfl (DV.n1 (q_sub (e_slot (pv 1) rfl) e_int))) rfl (fun sl ⟨r, e1, ds, e2, e3⟩ => ⟨[.int (m : Int)], _, by rw [e1, e2, e3]; show _ = [Slot.ptr 0, .dat (.int (m : Int))]; rw [show ((m : Int)) = ((m + 1 : Nat) : Int) - 1 by omega]; rfl, ⟨rfl, rfl⟩, fun d q => q⟩)
      · intro ds rs hds hl
        have hrs : NB 20 (m + 2) (.tup rs) ∧ NB 20 (m + 2) (.lst rs) := ⟨.tup (by have := hl.len; omega) (LcR.all (Q := NB 20 (m + 1)) (fun d r q => q) hl), .lst (by have := hl.len; omega) (LcR.all (Q := NB 20 (m + 1)) (fun d r q => q) hl)⟩
        refine ss_ret (P1 := NB 20 (m + 2)) (PX := N0) (e_pick (n := 3) (e_lstA (dva (EV.nb (e_slot (pv 3) rfl) hrs.2) (dva (EV.nb (q_tupleL rfl B.tuple (e_slot (pv 3) rfl)) hrs.1) (dva (EV.nb (q_tupleL rfl B.tuple (e_slot (pv 3) rfl)) hrs.1) dva_nil))) (by decide)) (i_sub (Ca := (· = way)) (Cb := (· = 6)) (IE.of (e_slot (pv 2) rfl) rfl) (i_int rfl) fun i j e e2 => by subst e e2; exact ⟨by omega, by omega⟩)) (fun d e => ⟨e, rfl⟩) fun c z => z.elim
  intro n
  induction n with
  | zero => exact step 0 fun m e => by omega
  | succ n ih => exact step (n + 1) fun m e => by obtain rfl : n = m := by omega
                                                  exact ih
end
end K

set_option Elab.async false
set_option linter.all false
set_option maxRecDepth 100000
set_option maxHeartbeats 4000000
namespace DL
open PySem PySem.Spec PyProof.Rows L2 Evl
/-! xs[a:b] = ys, b beyond the end too -/
section
variable {prog : Program} {w : World} {A : Around} {E : Value → Shared → Prop} {s : Shared}
theorem bounds_clip {a c n : Nat} (hac : a ≤ c) (ha : a ≤ n) : sliceBounds (some (a : Int)) (some (c : Int)) none n = ((a : Int), ((min c n : Nat) : Int), 1) := by
  have h1 : ¬ ((a : Int) < 0) := by omega
  have h2 : ¬ ((c : Int) < 0) := by omega
  simp only [sliceBounds, Option.getD_none, h1, h2, if_false, show (1 : Int) > 0 by decide, if_true]
  congr 1
  · omega
  · congr 1; omega
set_option maxRecDepth 100000 in
theorem put_slice {l b sl : Addr} {items new : Array Value} {n n2 : Nat} {vl vu : Value} {a c : Nat} {Q : Unit → Shared → Prop} (e : s.heap.get? l = some { cls := .type "list", data := .seq items n }) (e2 : s.heap.get? b = some { cls := .type "list", data := .seq new n2 }) (ne : l ≠ b)
    (hs : s.heap.IsSliceOf sl vl vu .none) (pl : IsPart vl (some (a : Int))) (pu : IsPart vu (some (c : Int))) (hac : a ≤ c) (ha : a ≤ items.size) (size : items.size + new.size ≤ sizeLine)
    (h : Q () { s with heap := s.heap.update l (Obj.mapSeq fun xs => xs.extract 0 a ++ new ++ xs.extract (min c items.size) xs.size) }) : wpAny (model prog w) A (setItem (.ref l) (.ref sl) (.ref b)) Q E s := by
  have il : s.heap.IsList l items := PySem.IsL.isList e
  have ib : s.heap.IsList b new := PySem.IsL.isList e2
  obtain ⟨os, hos, hcs, hds⟩ := id hs
  have ty : s.TypeIs (.ref sl) "slice" := ⟨os, hos, hcs⟩
  have other : Builtin.List.listSameRef (.ref l) (.ref b) = false := by unfold Builtin.List.listSameRef; exact beq_eq_false_iff_ne.mpr ne
  have big : (max (a : Int) ((min c items.size : Nat) : Int)).toNat = min c items.size := by omega
  have fits : ((fun xs : Array Value => xs.extract 0 a ++ new ++ xs.extract (min c items.size) xs.size) items).size ≤ sizeLine + 1 := by
    simp only [Array.size_append, Array.size_extract]; omega
  unfold setItem
  try with_reducible refine wpAny_holding ?_
  first | refine wpAny_bind (wpAny_pure ?_) | skip
  refine wpAny_bind (wpAny_sequenceKey il.typeIs (by decide) (wpAny_bind (wpAny_callSpecial?_slot (name := Str.ofString "__setitem__") il.typeIs slot_list_setitem (wpAny_call_entry slot_list_setitem il.typeIs entry_list_setitem ?_ (args_list_setitem _ _ _)))))
  show wpAny _ _ (Builtin.List.listSubscript? (.ref sl) >>= _) _ _ s
  refine wpAny_bind ?_
  unfold Builtin.List.listSubscript?
  refine wpAny_bind (wpAny_specialOf ty slice_no_index ?_)
  simp only [Option.isNone_none, if_true]
  refine wpAny_pure ?_
  show wpAny _ _ (typeOf (.ref sl) >>= _) _ _ s
  refine wpAny_bind (wpAny_typeOf ty ?_)
  first | rw [if_neg (by decide)] | refine PySem.W.KFB.if_not (by decide) ?_
  rw [listSliceParts_eq]
  refine wpAny_bind (wpAny_bind (wpAny_field hos hds (x := .none) rfl (wpAny_bind (wpAny_listPart .none ?_))))
  rw [if_neg (show ¬ ((rawPart none == rawInt 0) = true) from Bool.false_ne_true)]
  refine wpAny_bind (wpAny_field hos hds (x := vl) rfl (wpAny_bind (wpAny_listPart pl (wpAny_bind (wpAny_field hos hds (x := vu) rfl (wpAny_bind (wpAny_listPart pu (wpAny_pure ?_))))))))
  first | simp only [other, Bool.false_eq_true, if_false] | refine PySem.W.KFB.if_not other ?_
  refine wpAny_bind (m := Builtin.List.listAllItems (.ref b) "must assign iterable to extended slice") ?_
  unfold Builtin.List.listAllItems
  refine wpAny_bind (wpAny_typeOf ib.typeIs ?_)
  first | refine PySem.W.KFB.if_so (by decide) ?_ | rw [if_pos (by decide)]
  unfold Builtin.List.listItems
  refine wpAny_bind (wpAny_seqItems e2 rfl (wpAny_pure (wpAny_bind (wpAny_bind (wpAny_seqItems e rfl (wpAny_pure ?_))))))
  refine wpAny_bind (wpAny_of_eq ((sliceIndices_raw (some (a : Int)) (some (c : Int)) none items.size (by simp)).trans (congrArg (pure : Int × Int × Int → Sem (Int × Int × Int)) (bounds_clip hac ha))) ?_)
  show wpAny _ _ (if ((1 : Int) == 1) = true then _ else _) _ _ s
  rw [if_pos (by decide)]
  refine wpAny_bind (wpAny_rule ?_)
  first | simp only [notLongL size, Bool.false_eq_true, if_false] | refine PySem.W.KFB.if_not (notLongL size) ?_
  first | refine wpAny_bind (wpAny_pure ?_) | skip
  show wpAny _ _ (updateSeq l (fun xs => xs.extract 0 ((a : Int)).toNat ++ new ++ xs.extract (max (a : Int) ((min c items.size : Nat) : Int)).toNat xs.size) >>= _) _ _ s
  rw [big, Int.toNat_natCast]
  refine wpAny_bind (wpAny_updateSeq (hz := Nat.le_trans (Nat.le_add_right _ _) size) (_hz' := fits) e rfl (wpAny_bind (wpAny_letGo ?_)))
  first
    | exact wpAny_bind (wpAny_pure (wpAny_pure ⟨.none, rfl, wpAny_pure h⟩))
    | exact wpAny_pure ⟨.none, rfl, wpAny_pure h⟩
end
section
variable {X : Cx} {o value : Expr} {lo hi : Option Expr} {to tv : TE} {tl th : TO} {pos pos' p2 : Pos}
def sSetSl (tv to : TE) (tl th : TO) : TS := fun D σ H => tv σ H fun v H1 => to σ H1 fun x H2 => tl σ H2 fun l H3 => th σ H3 fun u H4 => ∃ (a b : Addr) (xs ys : List V) (n m : Nat), x = .ref a ∧ v = .ref b ∧ a ≠ b ∧ H4 a = some (.lst xs) ∧ H4 b = some (.lst ys) ∧ l = some (n : Int) ∧ u = some (m : Int) ∧
  n ≤ m ∧ n ≤ xs.length ∧ xs.length + ys.length ≤ sizeLine ∧ D.nx σ (upd H4 a (.lst (xs.take n ++ ys ++ xs.drop m)))
theorem ps_setSl (ho : PE X o to) (hl : PO X lo tl) (hu : PO X hi th) (hv : PE X value tv) (hs : swapsWith value (some (.Subscript o (.Slice lo hi none p2) pos')) pos.line X.env = pure false := by rfl) : PS X (.Assign [.Subscript o (.Slice lo hi none p2) pos'] value pos) (sSetSl tv to tl th) := by
  refine ⟨fun pins s σ H D I h => ?_⟩
  refine wpAny_Assign_Subscript (thn (hv.run pins s σ H _ I h) fun r s1 ⟨v, H1, I1, rv, q1⟩ => thn (ho.run pins s1 σ H1 _ I1 q1) fun ov s2 ⟨x, H2, I2, rx, q2⟩ => ?_) hs
  refine wpAny_Slice (thn (hl.run pins s2 σ H2 _ I2 q2) fun vl s3 ⟨l, H3, I3, pl, q3⟩ => thn (hu.run pins s3 σ H3 _ I3 q3) fun vu s4 ⟨u, H4, I4, pu, q4⟩ => ?_)
  rw [evalPart_none]
  refine wpAny_pure ?_
  obtain ⟨a, b, xs, ys, n, m, ex, ev, ne, hA, hB, el, eu, hnm, hn, hz, q⟩ := q4
  subst ex ev el eu
  obtain rfl : ov = Value.ref a := rx
  obtain rfl : r = Value.ref b := rv
  have I5 : Inv X pins σ H4 { s4 with heap := s4.heap.push { cls := .type "slice", data := .fields #[vl, vu, .none] } } := I4.kept (t' := s4.toks) fun b ob q => Heap.get?_push_of_some _ q
  obtain ⟨z, its, k1, r1, hl1, e1⟩ := I5.lstM hA
  obtain ⟨z2, its2, k2, r2, hl2, e2⟩ := I5.lstM hB
  have hsz : its.toArray.size = xs.length := by rw [List.size_toArray]; exact r1.length.symm
  have hsz2 : its2.toArray.size = ys.length := by rw [List.size_toArray]; exact r2.length.symm
  refine put_slice (a := n) (c := m) e1 e2 ne (Heap.IsSliceOf.new ..) pl pu hnm (by rw [hsz]; exact hn) (by rw [hsz, hsz2]; exact hz) ⟨σ, _, ?_, q⟩
  refine I5.lset (its' := its.take n ++ its2 ++ its.drop m) (t' := s4.toks) hA e1 ?_ (Vals.append (Vals.append (r1.take _) r2) (r1.drop _)) ?_
  · rw [splice_eq, List.size_toArray]
    congr 2
    by_cases h : m ≤ its.length
    · rw [Nat.min_eq_left h]
    · rw [Nat.min_eq_right (by omega), List.drop_length, List.drop_eq_nil_of_le (by omega)]
  · rw [List.length_append, List.length_append, List.length_take, List.length_drop]
    omega
end
end DL

set_option Elab.async false
set_option linter.all false
set_option maxRecDepth 100000
set_option maxHeartbeats 4000000
namespace DL
open PySem PySem.Spec PyProof.Rows L2 Evl
theorem cut2 {xs : List V} {n m : Nat} (hn : n ≤ xs.length) (hm : n ≤ m) : cutV xs (some (n : Int)) (some (m : Int)) = (xs.drop n).take (m - n) := by
  have h1 : HT.sIx xs.length 0 (some (n : Int)) = n := by
    rw [HT.sIx_nat]; omega
  have h2 : HT.sIx xs.length xs.length (some (m : Int)) = min m xs.length := by
    rw [HT.sIx_nat]
  unfold cutV
  rw [h1, h2]
  by_cases h : m ≤ xs.length
  · rw [Nat.min_eq_left h]
  · rw [Nat.min_eq_right (by omega), List.take_of_length_le (by rw [List.length_drop]; omega), List.take_of_length_le (by rw [List.length_drop]; omega)]
section
variable {X : Cx} {E : WK} {env : List Slot} {M : List MO} {PX : Value → Prop} {a b o value : Expr} {rest : List Stmt} {pos pos' pos2 pos3 p1 p2 p3 p4 : Pos} {P : Out → Prop} {ds ys : List D} {i k n m : Nat}
/-- xs[n:m][::-1], a new list -/
theorem n_revSl {kk : Tok} (ho : PE X o (tVar i)) (hei : env[i]? = some (.ptr k)) (hm : M[k]? = some (.ml ds)) (ha : EV X E env M a (· = .int (n : Int)) PX) (hb : EV X E env M b (· = .int (m : Int)) PX) (hn : n ≤ ds.length) (hnm : n ≤ m) :
    NV X E env M (.Subscript (.Subscript o (.Slice (some a) (some b) none p4) pos2) (.Slice none none (some (.UnaryOp .USub (.Constant (.int 1) kk p1) p2)) p3) pos) (· = .ml ((ds.drop n).take (m - n)).reverse) PX :=
  PE.imp (pe_revL (pe_slice sl_list ho (po_some ha) (po_some hb))) fun σ H Q ⟨S, as, ok, en, kq, x⟩ => by
    obtain ⟨o1, ho, s⟩ := en.get hei
    obtain ⟨q, hq, rfl⟩ := s
    refine ⟨_, ho, S, as, ok, en, fun d v S1 H1 e1 pp1 ok1 r1 => ?_, x⟩
    subst e1
    obtain rfl : v = .int n := r1
    refine ⟨n, rfl, S1, as, ok1, en.ex pp1.ex, fun d v S2 H2 e2 pp2 ok2 r2 => ?_, fun c S2 H2 pc p2 => x c S2 H2 pc (pp1.trans p2)⟩
    subst e2
    obtain rfl : v = .int m := r2
    obtain ⟨xs, hS, hv, rl⟩ := ok2.list hq hm
    have hxl := rl.length
    refine ⟨m, rfl, q, xs, rfl, sq_of hv, fun t ht => ?_⟩
    rw [cut2 (by omega) hnm]
    refine ⟨t, _, rfl, sq_of upd_same, fun z hz => ?_⟩
    have ok3 := ok2.grew (Ex.refl _) (ok2.ex.trans (Ex.new ht)) (Ex.new (o := .lst ((xs.drop n).take (m - n))) ht) fun _ z1 z2 => absurd z2 z1
    have pp3 : Post as S H S2 (upd H2 t (.lst ((xs.drop n).take (m - n)))) := (pp1.trans pp2).trans (Post.grew (Ex.refl _) (Ex.new ht) fun _ z1 z2 => absurd z2 z1)
    have hsz : S2 z = none := by
      cases e : S2 z with
      | none => rfl
      | some u => rw [ok3.ex z u e] at hz; cases hz
    have hz0 : H z = none := by
      cases e : H z with
      | none => rfl
      | some u => exact absurd hz (pp3.dom z (by rw [e]; exact fun z => nomatch z))
    exact kq _ z S2 _ rfl (pp3.trans (Post.grew (Ex.refl _) (Ex.new hz) fun _ z1 z2 => absurd z2 z1)) hz0 (ok3.more hz (Ex.new hz) ⟨hsz, _, upd_same, ((rl.drop n).take (m - n)).reverse⟩)
/-- xs[n:m] = a new list -/
theorem ss_setSl (ho : PE X o (tVar i)) (hei : env[i]? = some (.ptr k)) (hm : M[k]? = some (.ml ds)) (ha : EV X E env M a (· = .int (n : Int)) PX) (hb : EV X E env M b (· = .int (m : Int)) PX) (hn : n ≤ ds.length) (hnm : n ≤ m) (hl : ds.length + ys.length ≤ 100000) (hv : NV X E env M value (· = .ml ys) PX)
    (hr : BS X E env (M.set k (.ml (ds.take n ++ ys ++ ds.drop m))) rest P) (hx : ∀ c, PX c → P (.xx c env M)) (hs : swapsWith value (some (.Subscript o (.Slice (some a) (some b) none p2) pos')) pos.line X.env = pure false := by rfl) : BS X E env M (.Assign [.Subscript o (.Slice (some a) (some b) none p2) pos'] value pos :: rest) P := by
  refine ss_cons (P1 := fun o => o = .nx env (M.set k (.ml (ds.take n ++ ys ++ ds.drop m))) ∨ ∃ c, PX c ∧ o = .xx c env M) (PS.imp (ps_setSl ho (po_some ha) (po_some hb) hv hs) fun Dn σ H ⟨S, as, ok, en, kk⟩ => ⟨S, as, ok, en, fun mo z S1 H1 e1 pp1 hz ok1 => ?_, fun c S2 H2 p p2 ok2 => (kk _ (.inr ⟨c, p, rfl⟩)).exc p2 ok2 (en.ex p2.ex)⟩) ?_ ?_
  · subst e1
    obtain ⟨ok1, hS1, yv, hyv, ry⟩ := ok1.init ok.own.length
    have hzas : z ∉ as := fun h => ok.mem h hz
    obtain ⟨o1, ho1, s⟩ := (en.ex pp1.ex).get hei
    obtain ⟨q, hq, rfl⟩ := s
    refine ⟨_, ho1, S1, as, ok1, en.ex pp1.ex, fun d v S2 H2 e2 pp2 ok2 r2 => ?_, fun c S2 H2 p p2 ok2 => (kk _ (.inr ⟨c, p, rfl⟩)).exc (pp1.trans p2) ok2 (en.ex (pp1.trans p2).ex)⟩
    subst e2
    obtain rfl : v = .int n := r2
    refine ⟨n, rfl, S2, as, ok2, en.ex (pp1.trans pp2).ex, fun d v S3 H3 e3 pp3 ok3 r3 => ?_, fun c S3 H3 p p3 ok3 => (kk _ (.inr ⟨c, p, rfl⟩)).exc ((pp1.trans pp2).trans p3) ok3 (en.ex ((pp1.trans pp2).trans p3).ex)⟩
    subst e3
    obtain rfl : v = .int m := r3
    have p23 := pp2.trans pp3
    have hyv3 : H3 z = some (.lst yv) := p23.keep _ _ hyv hzas
    obtain ⟨xs, hS, hxv, rl⟩ := ok3.list hq hm
    have hxl := rl.length
    have ryl := ry.length
    refine ⟨m, rfl, q, z, xs, yv, n, m, rfl, rfl, fun e => hzas (e ▸ List.mem_of_getElem? hq), hxv, hyv3, rfl, rfl, hnm, by omega, sz_of (by omega), ?_⟩
    obtain ⟨ok4, p4⟩ := ok3.mutL (ds := ds.take n ++ ys ++ ds.drop m) hq hS (((rl.take n).append (ry.mono p23.ex)).append (rl.drop m))
    exact (kk _ (.inl rfl)).go ((pp1.trans p23).trans p4) ok4 (en.ex ((pp1.trans p23).trans p4).ex)
  · rintro env1 M1 (e1 | ⟨c, _, e1⟩)
    · cases e1; exact hr
    · cases e1
  · rintro o (rfl | ⟨c, p, rfl⟩) hn'
    · cases hn'
    · exact hx c p
/-- if, elif, else, each alike -/
theorem ss_if1 {P1 : Bool → Prop} {c : Expr} {body orelse : List Stmt} (hc : BV X E env M c P1 PX) (h1 : P1 true → BS X E env M body P) (h2 : P1 false → BS X E env M orelse P) (hx : ∀ c, PX c → P (.xx c env M)) : BS X E env M [.If c body orelse pos] P :=
  ss_if hc h1 h2 (fun e m q => ss_nil q) (fun o q _ => q) hx
end
end DL

set_option Elab.async false
set_option linter.all false
set_option maxRecDepth 100000
set_option maxHeartbeats 4000000
namespace DL
open PySem PySem.Spec PyProof.Rows L2 Evl
abbrev ROther (n : Nat) (ds : List D) (Pf : D → Prop) : Prop := ∃ (xs : List D) (b m : Nat), ds = [.tup xs, .int (n : Int)] ∧ NB b m (.tup xs) ∧ 20 ≤ b ∧ b ≤ 1000 ∧ n + 5 ≤ m ∧ m ≤ 40 ∧ Pf = NB (b + 8) m
/-- where the list of parts stands, however it was changed -/
def PartsQ (b m : Nat) : Out → Prop
  | .nx env M => env[3]? = some (.ptr 1) ∧ M[0]? = some .well ∧ ∃ ds, M[1]? = some (.ml ds) ∧ NB (b + 8) (m + 1) (.tup ds)
  | o => outW (NB (b + 8) (m + 1)) o
theorem eqv_nil (ds : List D) : PyData.eqv (D.lst ds).py (D.lst []).py = ds.isEmpty := by
  cases ds with
  | nil => rfl
  | cons d r => rfl
theorem nb_sub {b m : Nat} {xs ys : List D} (h : NB b (m + 1) (.tup xs)) (hl : ys.length ≤ b + 8) (hm : ∀ y ∈ ys, y ∈ xs ∨ NB (b + 8) m y) : NB (b + 8) (m + 1) (.tup ys) := by
  obtain ⟨m', e, h1, h2⟩ := h.items
  obtain rfl : m' = m := by omega
  exact .tup hl fun d hd => (hm d hd).elim (fun q => (h2 d q).mono (by omega) (Nat.le_refl _)) id
theorem nb_set {b m : Nat} {xs : List D} {i : Nat} {d : D} (h : NB b (m + 1) (.tup xs)) (hd : NB (b + 8) m d) : NB (b + 8) (m + 1) (.tup (xs.set i d)) :=
  nb_sub h (by obtain ⟨_, _, h1, _⟩ := h.items; rw [List.length_set]; omega) fun y hy => (List.mem_or_eq_of_mem_set hy).imp id fun (e : y = d) => e ▸ hd
theorem nb_lst {b m : Nat} {xs : List D} (h : NB b m (.tup xs)) : NB b m (.lst xs) := by cases h with | tup h1 h2 => exact .lst h1 h2
theorem nb_tup {b m : Nat} {xs : List D} (h : NB b m (.lst xs)) : NB b m (.tup xs) := by cases h with | lst h1 h2 => exact .tup h1 h2
theorem nb_cat {b m : Nat} {z y : Str} (h1 : z.length ≤ b) (h2 : PyData.strOk z = true) (h3 : y.length ≤ 8) (h4 : PyData.strOk y = true) : NB (b + 8) m (.str (z ++ y)) := by
  have e : (z ++ y).cps = z.cps ++ y.cps := rfl
  refine .str ?_ ?_
  · show (z ++ y).cps.size ≤ _
    rw [e, Array.size_append]
    have a1 : z.cps.size ≤ b := h1
    have a2 : y.cps.size ≤ 8 := h3
    omega
  · unfold PyData.strOk at *
    rw [e, Array.all_append, h2, h4]; rfl
section
variable {X : Cx} {E : WK} {env : List Slot} {M : List MO} {PX : Value → Prop} {a b c : Expr} {es : List Expr} {rest : List Stmt} {pos p : Pos} {i k j : Nat}
theorem e_thing {n kk : Nat} {ps : List Str} (h : Has X.prog X.w X.K X.mg X.base CX0 "_law_thing" ps kk (spW X.K (RThing n))) (hr : Room kk X.A) (hg : Gl X "_law_thing") (hw : PE X a (tVar i)) (hei : env[i]? = some (.ptr j)) (hj : M[j]? = some .well) (hb : EV X E env M b (· = .int (n : Int)) PX)
    (he : starEach [a, b] X.env = (false, eval a X.env) :: starEach [b] X.env := by rfl) (he2 : starEach [b] X.env = (false, eval b X.env) :: starEach [] X.env := by rfl) (hpl : (backTo pos (starEach [b] X.env)).any (·.1) = false := by rfl) : EV X E env M (.Call (.Name "_law_thing" p) [a, b] [] pos) (NB 20 (n + 1)) PX :=
  e_callW h hr hg (a_ptr hw hei (DV.n1 hb he2) he) hj (fun sl ⟨r, e1, ds, e2, e3⟩ => ⟨ds, _, by rw [e1, e2], ⟨e3, rfl⟩, fun d q => q⟩) (by decide) he hpl
end
end DL
namespace K
open PySem PySem.Spec PyProof.Rows L2 Evl DL
section
variable {P : Program} {w : World} {K : PySem.W.Frag} {mg : Str → Option Value} {base : Heap}
theorem law_otherwise (h : Df K mg "_law_otherwise" s__law_otherwise) (B : Bl mg) (h1 : Has P w K mg base CX0 "_law_take" p__law_take 1 (spW K RTake)) (h2 : ∀ n : Nat, Has P w K mg base CX0 "_law_thing" p__law_thing (n + 2) (spW K (RThing n))) :
    ∀ n : Nat, Has P w K mg base CX0 "_law_otherwise" p__law_otherwise (n + 5) (spW K (ROther n)) := by
  have step : ∀ n : Nat, (∀ m, n = m + 1 → Has P w K mg base CX0 "_law_otherwise" p__law_otherwise (m + 5) (spW K (ROther m))) → Has P w K mg base CX0 "_law_otherwise" p__law_otherwise (n + 5) (spW K (ROther n)) := by
    intro n ih
    refine hasW h sc__law_otherwise bn__law_otherwise (by rintro ds Pf ⟨xs, b, m, rfl, _⟩; rfl) ?_
    rintro f cdv A outer s H E hr ds Pf ⟨xs, b, m, rfl, hnb, hb0, hb1, hm, hm40, rfl⟩
    have nd := sc__law_otherwise.nd
    obtain ⟨m, rfl, hxl, hxs⟩ := hnb.items
    refine ss_setN (i := 3) (PX := N0) nd rfl (.inl rfl) (n_listOf (ds := xs) rfl B.list (EV.mono (e_slot (pv 1) rfl) fun d e => .inl e)) ?_ fun c z => z.elim
    rintro _ rfl
    refine ss_ifret (P1 := (· = xs.isEmpty)) (PX := N0) (BV.to (tx_cmp (op_eqD hr.units) (x_ptr (pv 3) rfl) (x_dat (q_lstD (ds := []) d_nil (by decide))) rfl rfl (nomark _) (bin_eq (Nice.sh (NB.nice (by omega) (nb_lst hnb)) (by omega)) (by decide) rfl)) (eqv_nil xs)) (fun hb => ?_) (fun hb => ?_) fun c z => z.elim
    · refine ss_ret (P1 := NB (b + 8) (m + 1)) (PX := N0) (e_tup (P1 := fun l => ∃ d, l = [d] ∧ NB 20 2 d) (DV.mono (d_cons (e_thing (n := 1) ((h2 1).mono (by omega)) hr rfl (pv 0) rfl rfl e_int) d_nil) fun l ⟨d, r, e1, e2, e3⟩ => ⟨d, by rw [e1, e3], e2⟩) fun l ⟨d, e, q⟩ => ⟨by rw [e]; show 1 ≤ 100000; omega, ?_⟩) (fun d e => ⟨rfl, e, rfl⟩) fun c z => z.elim
      rw [e]; exact .tup (show 1 ≤ b + 8 by omega) fun x hx => by rw [List.mem_singleton.mp hx]; exact q.mono (by omega) (by omega)
    have hne : 0 < xs.length := by
      cases xs with
      | nil => cases hb
      | cons _ _ => exact Nat.succ_pos _
    refine ss_set (i := 4) (P1 := fun d => ∃ i, d = .int i ∧ 0 ≤ i ∧ i < (xs.length : Int)) (PX := N0) nd rfl (.inl rfl) (i_take (B := (xs.length : Int)) (h1.mono (by omega)) hr rfl (pv 0) rfl rfl (IE.of (qx_len (d := .lst xs) rfl B.len (x_ptr (pv 3) rfl) rfl rfl) ⟨by show 0 < (xs.length : Int); omega, Int.le_refl _⟩) (by omega)) ?_ fun c z => z.elim
    rintro _ ⟨at', rfl, a0, a1⟩
    obtain ⟨q, rfl⟩ := Int.eq_ofNat_of_zero_le a0
    have hq : q < xs.length := by omega
    obtain ⟨x, hx⟩ : ∃ x, xs[q]? = some x := ⟨_, List.getElem?_eq_getElem hq⟩
    have hxm : x ∈ xs := List.mem_of_getElem? hx
    have hxn := hxs x hxm
    have hat : atI xs (q : Int) = some x := atI_nat hx
    refine ss_ifret (P1 := fun c => c = true → isTup x = true ∧ 0 < n) (PX := N0) (PW.pt (b_and (P1 := (· = isTup x)) (t_val (q_isTup rfl B.isinstance rfl B.tuple (q_ixP (ds := xs) (k := 1) (x_ptr (pv 3) rfl) (e_slot (pv 4) rfl) rfl hat))) (fun e1 => b_and (P1 := (· = decide ((0 : Int) < n))) (t_gt (e_slot (pv 2) rfl) e_int) (fun e2 => b_and1 (i_cmp op_gt (i_take (B := 4) (h1.mono (by omega)) hr rfl (pv 0) rfl rfl (i_int (by decide)) (by decide)) (i_int (C := fun _ => True) trivial) (nomark _) fun _ _ _ _ _ => ⟨e1.symm, by have := of_decide_eq_true e2.symm; omega⟩)) fun _ z => nomatch z) fun _ z => nomatch z)) (fun hc => ?_) (fun hc => ?_) fun c z => z.elim
    · obtain ⟨hT, hn0⟩ := hc rfl
      obtain ⟨ys, rfl⟩ := isTup_of hT
      obtain ⟨n, rfl⟩ : ∃ n', n = n' + 1 := ⟨n - 1, by omega⟩
      refine ss_setP (i := 3) (k := 1) (ds := xs) (n := q) (Pd := NB (b + 8) m) (PX := N0) (pv 3) rfl rfl (e_slot (pv 4) rfl) hq (e_callW (j := 0) (ih n rfl) (Room.mono hr (by omega)) rfl (a_ptr (pv 0) rfl (DV.n2 (q_ixP (ds := xs) (k := 1) (x_ptr (pv 3) rfl) (e_slot (pv 4) rfl) rfl hat) (q_sub (e_slot (pv 2) rfl) e_int))) rfl fun sl ⟨r, e1, ds, e2, e3⟩ => ⟨[.tup ys, .int (n : Int)], _, ?_, ⟨ys, b, m, rfl, hxn, hb0, hb1, by omega, by omega, rfl⟩, fun d q => q⟩) (fun d hd => ?_) fun c z => z.elim
      · rw [e1, e2, e3, show ((n + 1 : Nat) : Int) - 1 = (n : Int) by omega]
      · exact ss_ret (P1 := (· = .tup (xs.set q d))) (PX := N0) (q_tupleP (k := 1) rfl B.tuple (x_ptr (pv 3) rfl) rfl) (fun d' e => ⟨rfl, by rw [e]; exact nb_set hnb hd, rfl⟩) fun c z => z.elim
    refine ss_set (i := 5) (P1 := fun d => ∃ i, d = .int i ∧ 0 ≤ i ∧ i < 9) (PX := N0) nd rfl (.inl rfl) (i_take (B := 9) (h1.mono (by omega)) hr rfl (pv 0) rfl rfl (i_int (by decide)) (by decide)) ?_ fun c z => z.elim
    rintro _ ⟨way, rfl, w0, w9⟩
    refine ss_if (P1 := fun _ => True) (P2 := PartsQ b m) (PX := N0) (BV.mono (t_eqI (e_slot (pv 5) rfl) e_int) fun _ _ => trivial) (fun _ => ?_) (fun _ => ?_) (fun env1 M1 ⟨e3, e0, ds, e1, hd⟩ => ss_ret (P1 := (· = .tup ds)) (PX := N0) (q_tupleP (k := 1) rfl B.tuple (x_ptr (pv 3) e3) e1) (fun d e => ⟨by rw [e]; exact hd, e0⟩) fun c z => z.elim) (fun o q hn => by cases o <;> first | (cases hn; done) | exact q) fun c z => z.elim
    · -- pop
      refine ss_meth (i := 3) (k := 1) (ds := xs) (ds' := []) (PX := N0) PySem.F.slot_list_pop PySem.F.type_list_pop mt_popAt (pv 3) rfl rfl (DV.n1 (e_slot (pv 4) rfl)) ?_ fun c z => z.elim
      rintro _ rfl
      refine ⟨_, lm_popAt hq (by omega), ss_nil ⟨rfl, rfl, _, rfl, nb_sub hnb ?_ fun y hy => .inl (List.mem_of_mem_eraseIdx hy)⟩⟩
      rw [List.length_eraseIdx]; split <;> omega
    · refine ss_if1 (P1 := fun _ => True) (PX := N0) (BV.mono (t_eqI (e_slot (pv 5) rfl) e_int) fun _ _ => trivial) (fun _ => ?_) (fun _ => ?_) fun c z => z.elim
      · -- insert
        refine ss_meth (i := 3) (k := 1) (ds := xs) (ds' := []) (PX := N0) PySem.F.slot_list_insert PySem.F.type_list_insert mt_insert (pv 3) rfl rfl (DV.n2 (e_slot (pv 4) rfl) (q_ixP (ds := xs) (k := 1) (x_ptr (pv 3) rfl) (e_slot (pv 4) rfl) rfl hat)) ?_ fun c z => z.elim
        rintro _ rfl
        refine ⟨_, lm_insert (by omega) (by omega), ss_nil ⟨rfl, rfl, _, rfl, nb_sub hnb ?_ fun y hy => .inl ?_⟩⟩
        · rw [List.length_append, List.length_append, List.length_take, List.length_drop]; show _ + 1 + _ ≤ _; omega
        · rcases List.mem_append.mp hy with hy | hy
          · rcases List.mem_append.mp hy with hy | hy
            · exact List.mem_of_mem_take hy
            · rw [List.mem_singleton.mp hy]; exact hxm
          · exact List.mem_of_mem_drop hy
      · refine ss_if1 (P1 := fun _ => True) (PX := N0) (BV.mono (t_eqI (e_slot (pv 5) rfl) e_int) fun _ _ => trivial) (fun _ => ?_) (fun _ => ?_) fun c z => z.elim
        · -- turned about
          refine ss_setSl (i := 3) (k := 1) (ds := xs) (n := q) (m := q + 2) (PX := N0) (pv 3) rfl rfl (e_slot (pv 4) rfl) (EV.to (q_add (e_slot (pv 4) rfl) e_int) rfl) (by omega) (by omega) ?_ (n_revSl (i := 3) (k := 1) (ds := xs) (n := q) (m := q + 2) (pv 3) rfl rfl (e_slot (pv 4) rfl) (EV.to (q_add (e_slot (pv 4) rfl) e_int) rfl) (by omega) (by omega)) (ss_nil ⟨rfl, rfl, _, rfl, nb_sub hnb ?_ fun y hy => .inl ?_⟩) fun c z => z.elim
          · rw [List.length_reverse, List.length_take, List.length_drop]; omega
          · rw [List.length_append, List.length_append, List.length_take, List.length_reverse, List.length_take, List.length_drop, List.length_drop]; omega
          · rcases List.mem_append.mp hy with hy | hy
            · rcases List.mem_append.mp hy with hy | hy
              · exact List.mem_of_mem_take hy
              · exact List.mem_of_mem_drop (List.mem_of_mem_take (List.mem_reverse.mp hy))
            · exact List.mem_of_mem_drop hy
        · refine ss_if1 (P1 := fun _ => True) (PX := N0) (BV.mono (t_eqI (e_slot (pv 5) rfl) e_int) fun _ _ => trivial) (fun _ => ?_) (fun _ => ?_) fun c z => z.elim
          · -- a thing
            exact ss_setP (i := 3) (k := 1) (ds := xs) (n := q) (Pd := NB 20 3) (PX := N0) (pv 3) rfl rfl (e_slot (pv 4) rfl) hq (e_thing (n := 2) (j := 0) ((h2 2).mono (by omega)) hr rfl (pv 0) rfl rfl e_int) (fun d hd => ss_nil ⟨rfl, rfl, _, rfl, nb_set hnb (hd.mono (by omega) (by omega))⟩) fun c z => z.elim
          · refine ss_if1 (P1 := fun _ => True) (PX := N0) (BV.mono (t_w (t_or (t_eqI (e_slot (pv 5) rfl) e_int) fun _ => t_or1 (t_eqI (e_slot (pv 5) rfl) e_int))) fun _ _ => trivial) (fun _ => ?_) (fun _ => ?_) fun c z => z.elim
            · -- one of those near
              refine ss_setN (i := 6) (P1 := fun mo => ∃ l, mo = .ml l ∧ l.length = 18 ∧ ∀ x ∈ l, NB 20 0 x) (PX := N0) nd rfl (.inl rfl) (n_lstA (dva (EV.nb e_int .int) (dva (EV.nb e_int .int) (dva (EV.nb (q_neg e_int) .int) (dva (EV.nb e_int .int) (dva (EV.nb e_int .int) (dva (EV.nb e_int .int) (dva (EV.nb e_int .int) (dva (EV.nb e_int .int) (dva (EV.nb e_int .int) (dva (EV.nb e_int .int) (dva (EV.nb e_non .non) (dva (EV.nb e_bl .bl) (dva (EV.nb e_str (.str (by decide) (by decide +kernel))) (dva (EV.nb e_str (.str (by decide) (by decide +kernel))) (dva (EV.nb e_str (.str (by decide) (by decide +kernel))) (dva (EV.nb e_str (.str (by decide) (by decide +kernel))) (dva (EV.nb e_str (.str (by decide) (by decide +kernel))) (dva (EV.nb e_str (.str (by decide) (by decide +kernel))) (dva_nil))))))))))))))))))) (by decide)) ?_ fun c z => z.elim
              rintro _ ⟨l, rfl, hl, hp⟩
              refine ss_setP (i := 3) (k := 1) (ds := xs) (n := q) (Pd := NB 20 0) (PX := N0) (pv 3) rfl rfl (e_slot (pv 4) rfl) hq (e_pick (n := 24) (NV.frz (P := fun l => l.length = 24 ∧ ∀ x ∈ l, NB 20 0 x) (n_catP (k := 2) (ds := l) (Pe := fun l => l.length = 6 ∧ ∀ x ∈ l, NB 20 0 x) (x_ptr (pv 6) rfl) rfl (n_lstA (dva (EV.nb e_str (.str (by decide) (by decide +kernel))) (dva (EV.nb e_str (.str (by decide) (by decide +kernel))) (dva (EV.nb e_str (.str (by decide) (by decide +kernel))) (dva (EV.nb e_str (.str (by decide) (by decide +kernel))) (dva (EV.nb e_str (.str (by decide) (by decide +kernel))) (dva (EV.nb e_str (.str (by decide) (by decide +kernel))) (dva_nil))))))) (by decide)) ?_)) (i_take (B := 24) (j := 0) (h1.mono (by omega)) hr rfl (pv 0) rfl rfl (i_int (by decide)) (by decide))) (fun d hd => ss_nil ⟨rfl, rfl, _, rfl, nb_set hnb (hd.mono (by omega) (by omega))⟩) fun c z => z.elim
              rintro l2 ⟨q1, q2⟩
              refine ⟨by omega, _, rfl, by rw [List.length_append]; omega, fun x hx => ?_⟩
              rcases List.mem_append.mp hx with hx | hx
              · exact hp x hx
              · exact q2 x hx
            · refine ss_if1 (P1 := fun c => c = true → DL.isInt x = true ∧ isBool x = false) (PX := N0) (PW.pt (b_and (P1 := fun _ => True) (BV.mono (t_eqI (e_slot (pv 5) rfl) e_int) fun _ _ => trivial) (fun _ => b_and (P1 := (· = DL.isInt x)) (t_val (q_isInt rfl B.isinstance rfl B.int (q_ixP (ds := xs) (k := 1) (x_ptr (pv 3) rfl) (e_slot (pv 4) rfl) rfl hat))) (fun e1 => b_and1 (BV.mono (t_not (t_val (q_isBool rfl B.isinstance rfl B.bool (q_ixP (ds := xs) (k := 1) (x_ptr (pv 3) rfl) (e_slot (pv 4) rfl) rfl hat)))) fun c e2 e3 => ⟨e1.symm, by rw [e3] at e2; revert e2; cases isBool x <;> simp⟩)) fun _ z => nomatch z) fun _ z => nomatch z)) (fun hc => ?_) (fun _ => ?_) fun c z => z.elim
              · -- a number near
                obtain ⟨q1, q2⟩ := hc rfl
                obtain ⟨v, rfl⟩ := isInt_of q1 q2
                refine ss_setP (i := 3) (k := 1) (ds := xs) (n := q) (Pd := fun d => ∃ i, d = .int i ∧ True) (PX := N0) (pv 3) rfl rfl (e_slot (pv 4) rfl) hq (i_add (Ca := fun _ => True) (Cb := fun _ => True) (IE.of (q_ixP (ds := xs) (k := 1) (x_ptr (pv 3) rfl) (e_slot (pv 4) rfl) rfl hat) trivial) (e_pick (n := 3) (e_lstA (dva (i_int trivial) (dva (IE.of (q_neg e_int) trivial) (dva (i_int trivial) dva_nil))) (by decide)) (i_take (B := 3) (j := 0) (h1.mono (by omega)) hr rfl (pv 0) rfl rfl (i_int (by decide)) (by decide))) fun _ _ _ _ => trivial) ?_ fun c z => z.elim
                rintro _ ⟨i, rfl, _⟩
                exact ss_nil ⟨rfl, rfl, _, rfl, nb_set hnb .int⟩
              · refine ss_if1 (P1 := fun c => c = true → isTup x = true) (PX := N0) (PW.pt (b_and (P1 := fun _ => True) (BV.mono (t_eqI (e_slot (pv 5) rfl) e_int) fun _ _ => trivial) (fun _ => b_and1 (BV.mono (t_val (q_isTup rfl B.isinstance rfl B.tuple (q_ixP (ds := xs) (k := 1) (x_ptr (pv 3) rfl) (e_slot (pv 4) rfl) rfl hat))) fun c e1 e2 => by rw [← e1, e2])) fun _ z => nomatch z)) (fun hc => ?_) (fun _ => ?_) fun c z => z.elim
                · -- a list for a tuple
                  obtain ⟨ys, rfl⟩ := isTup_of (hc rfl)
                  refine ss_setP (i := 3) (k := 1) (ds := xs) (n := q) (Pd := (· = .lst ys)) (PX := N0) (pv 3) rfl rfl (e_slot (pv 4) rfl) hq (NV.frzL (n_listOf rfl B.list (EV.mono (q_ixP (ds := xs) (k := 1) (x_ptr (pv 3) rfl) (e_slot (pv 4) rfl) rfl hat) fun d e => .inl e))) ?_ fun c z => z.elim
                  rintro _ rfl
                  exact ss_nil ⟨rfl, rfl, _, rfl, nb_set hnb ((nb_lst hxn).mono (by omega) (Nat.le_refl _))⟩
                · refine ss_if1 (P1 := fun c => c = true → isStr x = true) (PX := N0) (PW.pt (b_and (P1 := fun _ => True) (BV.mono (t_eqI (e_slot (pv 5) rfl) e_int) fun _ _ => trivial) (fun _ => b_and1 (BV.mono (t_val (q_isStr rfl B.isinstance rfl B.str (q_ixP (ds := xs) (k := 1) (x_ptr (pv 3) rfl) (e_slot (pv 4) rfl) rfl hat))) fun c e1 e2 => by rw [← e1, e2])) fun _ z => nomatch z)) (fun hc => ?_) (fun _ => ?_) fun c z => z.elim
                  · -- a longer text
                    obtain ⟨z, rfl⟩ := isStr_of (hc rfl)
                    refine ss_setP (i := 3) (k := 1) (ds := xs) (n := q) (Pd := NB (b + 8) m) (PX := N0) (pv 3) rfl rfl (e_slot (pv 4) rfl) hq (e_op (Pa := (· = .str z)) (Pb := fun d => ∃ y : Str, d = .str y ∧ y.length ≤ 8 ∧ PyData.strOk y = true) op_add_str (q_ixP (ds := xs) (k := 1) (x_ptr (pv 3) rfl) (e_slot (pv 4) rfl) rfl hat) (e_pick (n := 4) (e_lstA (dva (EV.mono e_str fun d e => ⟨_, e, by decide, by decide +kernel⟩) (dva (EV.mono e_str fun d e => ⟨_, e, by decide, by decide +kernel⟩) (dva (EV.mono e_str fun d e => ⟨_, e, by decide, by decide +kernel⟩) (dva (EV.mono e_str fun d e => ⟨_, e, by decide, by decide +kernel⟩) dva_nil)))) (by decide)) (i_take (B := 4) (j := 0) (h1.mono (by omega)) hr rfl (pv 0) rfl rfl (i_int (by decide)) (by decide))) ?_) (fun d hd => ss_nil ⟨rfl, rfl, _, rfl, nb_set hnb hd⟩) fun c z => z.elim
                    rintro _ _ rfl ⟨y, rfl, hy1, hy2⟩
                    obtain ⟨z1, z2⟩ := hxn.str'
                    exact bin_catS (by omega) (nb_cat z1 z2 hy1 hy2)
                  · exact ss_retP (pv 3) rfl ⟨⟨xs, rfl, (nb_lst hnb).mono (by omega) (Nat.le_refl _)⟩, by decide, rfl⟩
  intro n
  induction n with
  | zero => exact step 0 fun m e => by omega
  | succ n ih => exact step (n + 1) fun m e => by obtain rfl : n = m := by omega
                                                  exact ih
end
end K

set_option Elab.async false
set_option linter.all false
set_option maxRecDepth 100000
set_option maxHeartbeats 4000000
namespace DL
open PySem PySem.Spec PyProof.Rows L2 Evl
section
variable {X : Cx} {E : WK} {env : List Slot} {M : List MO} {PX : Value → Prop} {a b c : Expr} {pos p p2 : Pos} {ds : List D}
/-- xs == [] -/
theorem q_eqNil (hu : X.A.units + 64 < cLine) (ha : EV X E env M a (· = .lst ds) PX) (hs : Sh (.lst ds)) : EV X E env M (.Compare a [.Eq] [.List [] p] pos) (· = .bl ds.isEmpty) PX :=
  EV.toB (q_eqD hu ha (q_lstD (ds := []) d_nil (by decide)) hs (by decide)) (eqv_nil ds)
end
theorem filt_empty {α : Type} (c : α → Bool) : ∀ l : List α, (l.filter c).isEmpty = l.all fun x => !c x
  | [] => rfl
  | x :: r => by
    rw [List.filter_cons, List.all_cons]
    cases c x with
    | true => rfl
    | false => show (r.filter c).isEmpty = _; rw [filt_empty c r]; rfl
theorem sh_flat {ds : List D} (hl : ds.length ≤ 4000) (h : ∀ d ∈ ds, NB 4000 0 d) : Sh (.lst ds) := (NB.nice (Nat.le_refl _) (.lst hl h)).sh (n := 1) (by decide)
end DL
namespace K
open PySem PySem.Spec PyProof.Rows L2 Evl DL
section
variable {P : Program} {w : World} {K : PySem.W.Frag} {mg : Str → Option Value} {base : Heap}
theorem law_is_word (h : Df K mg "_law_is_word" s__law_is_word) (B : Bl mg) : Has P w K mg base CX0 "_law_is_word" p__law_is_word 1 (spF K (det1 (Nice 50) fun d => .bl (isWord d))) := by
  refine hasF h sc__law_is_word bn__law_is_word (by rintro ds Pf PXf ⟨a, rfl, _⟩; rfl) ?_
  rintro f cdv A outer s H E hr ds Pf PXf ⟨a, rfl, hn, rfl, rfl⟩
  refine ss_ifret (P1 := (· = (!isStr a || (decide ((lenD a : Int) < 1) || decide ((8 : Int) < lenD a))))) (PX := N0) (t_w (t_or (t_not (t_val (q_isStr rfl B.isinstance rfl B.str (e_slot (pv 0) rfl)))) fun hb => t_or (t_lt (q_len rfl B.len (e_slot (pv 0) rfl) (hn.sized (.inl (by revert hb; cases isStr a <;> simp)))) e_int) fun _ => t_or1 (t_gt (q_len rfl B.len (e_slot (pv 0) rfl) (hn.sized (.inl (by revert hb; cases isStr a <;> simp)))) e_int))) (fun hb => ?_) (fun hb => ?_) fun c z => z.elim
  · refine ss_ret (P1 := (· = .bl false)) (PX := N0) e_bl (fun d e => ⟨rfl, ?_⟩) fun c z => z.elim
    refine e.trans (congrArg D.bl (Eq.symm ?_))
    unfold isWord
    cases h1 : isStr a with
    | false => rfl
    | true =>
      rw [h1] at hb
      have hb : true = (decide ((lenD a : Int) < 1) || decide ((8 : Int) < lenD a)) := hb
      have : (decide ((1 : Int) ≤ lenD a) && decide ((lenD a : Int) ≤ 8)) = false := by
        rw [Bool.and_eq_false_iff]
        rcases Bool.or_eq_true_iff.mp hb.symm with q | q
        · left; have := of_decide_eq_true q; exact decide_eq_false (by omega)
        · right; have := of_decide_eq_true q; exact decide_eq_false (by omega)
      rw [this]; rfl
  have hb := hb.symm
  rw [Bool.or_eq_false_iff, Bool.or_eq_false_iff] at hb
  obtain ⟨h1, h2, h3⟩ := hb
  obtain ⟨z, rfl⟩ := isStr_of (d := a) (by revert h1; cases isStr a <;> simp)
  have hz : z.cps.toList.length ≤ 4000 := by rw [Array.length_toList]; exact hn.str.1
  refine ss_ret (P1 := (· = .bl (isWord (.str z)))) (PX := N0) ?_ (fun d e => e) fun c z => z.elim
  refine EV.toB (q_eqNil (ds := (signsD z).filter fun d => match d with | .str y => !decide (y.cps.getD 0 0 ∈ small.cps.toList) | _ => false) hr.units (EV.to (q_lcf (x := "_law_sign") (i := 1) (ds := signsD z) (f := fun d => d) (c := fun d => match d with | .str y => !decide (y.cps.getD 0 0 ∈ small.cps.toList) | _ => false) rfl sc__law_is_word.nd (i_str (P := (· = signsD z)) (EV.mono (e_slot (pv 0) rfl) fun d e => ⟨z, e, rfl⟩)) (blkOk_by (N := N__law_is_word) (sc := defScope s__law_is_word) (by decide +kernel)) (fun _ _ _ _ _ => pg_name (i := 1) sc__law_is_word.nd rfl (Or.inl rfl)) ?_ ?_ ?_) (by rw [List.map_id'])) ?_) ?_
  · unfold signsD; rw [List.length_map]; omega
  · intro d hd s H C' cl fp
    unfold signsD at hd
    obtain ⟨c, hc, rfl⟩ := List.mem_map.mp hd
    exact t_cmp op_notIn_sign (e_slot (pv 1) rfl) e_str rfl (bin_nsign rfl)
  · intro d hd _ s H C' cl fp
    exact e_slot (pv 1) rfl
  · refine sh_flat ?_ fun d hd => ?_
    · refine Nat.le_trans (List.length_filter_le _ _) ?_
      unfold signsD; rw [List.length_map]; exact hz
    · have hd := (List.mem_filter.mp hd).1
      unfold signsD at hd
      obtain ⟨c, hc, rfl⟩ := List.mem_map.mp hd
      refine .str (by show 1 ≤ 4000; omega) ?_
      have := hn.str.2
      unfold PyData.strOk at this ⊢
      rw [← Array.all_toList, List.all_eq_true] at this
      show (#[c].all fun x => decide (x < 1114112)) = true
      simpa using this c hc
  · rw [filt_empty]
    unfold isWord signsD cpsD
    have e1 : decide ((1 : Int) ≤ lenD (.str z)) = true := by have := of_decide_eq_false h2; exact decide_eq_true (by omega)
    have e2 : decide ((lenD (.str z) : Int) ≤ 8) = true := by have := of_decide_eq_false h3; exact decide_eq_true (by omega)
    rw [e1, e2, List.all_map, List.all_map]
    show _ = (true && (true && _))
    rw [Bool.true_and, Bool.true_and]
    congr 1
    funext c
    show (!(!decide (c ∈ small.cps.toList))) = _
    rw [Bool.not_not]; rfl
theorem law_is_number (h : Df K mg "_law_is_number" s__law_is_number) (B : Bl mg) : Has P w K mg base CX0 "_law_is_number" p__law_is_number 1 (spF K (det3 (fun _ lo hi => isInt lo = true ∧ isBool lo = false ∧ isInt hi = true ∧ isBool hi = false) fun d lo hi => .bl (isWhole d (nI lo) (nI hi)))) := by
  refine hasF h sc__law_is_number bn__law_is_number (by rintro ds Pf PXf ⟨a, b, c, rfl, _⟩; rfl) ?_
  rintro f cdv A outer s H E hr ds Pf PXf ⟨a, lo, hi, rfl, ⟨h1, h2, h3, h4⟩, rfl, rfl⟩
  obtain ⟨lo, rfl⟩ := isInt_of h1 h2
  obtain ⟨hi, rfl⟩ := isInt_of h3 h4
  refine ss_ret (P1 := (· = .bl (isWhole a lo hi))) (PX := N0) ?_ (fun d e => e) (fun c z => z.elim)
  refine q_and (q_isInt rfl B.isinstance rfl B.int (e_slot (pv 0) rfl)) fun h1 => q_and (q_not (q_isBool rfl B.isinstance rfl B.bool (e_slot (pv 0) rfl))) fun h2 => q_one ?_
  obtain ⟨i, rfl⟩ := isInt_of h1 (by revert h2; cases isBool a <;> simp)
  exact q_chain op_le op_le (e_slot (pv 1) rfl) (e_slot (pv 0) rfl) (e_slot (pv 2) rfl) bin_le fun _ => bin_le
theorem law_says (h : Df K mg "_law_says" s__law_says) (B : Bl mg) : Has P w K mg base CX0 "_law_says" p__law_says 1 (spF K (det2 (fun a b => isBool a = true ∧ isBool b = true) fun a b => .bl (eqD a b))) := by
  refine hasF h sc__law_says bn__law_says (by rintro ds Pf PXf ⟨a, b, rfl, _⟩; rfl) ?_
  rintro f cdv A outer s H E hr ds Pf PXf ⟨a, b, rfl, ⟨h1, h2⟩, rfl, rfl⟩
  have e1 : ∃ x, a = .bl x := by cases a <;> first | (cases h1; done) | exact ⟨_, rfl⟩
  have e2 : ∃ x, b = .bl x := by cases b <;> first | (cases h2; done) | exact ⟨_, rfl⟩
  obtain ⟨x, rfl⟩ := e1
  obtain ⟨y, rfl⟩ := e2
  refine ss_ret (P1 := (· = .bl (decide (x = y)))) (PX := N0) ?_ (fun d e => e) (fun c z => z.elim)
  exact EV.toB (q_and (q_isBool rfl B.isinstance rfl B.bool (e_slot (pv 0) rfl)) fun _ => q_one (q_eqS (e_slot (pv 0) rfl) (e_slot (pv 1) rfl) rfl)) rfl
end
end K

set_option Elab.async false
set_option linter.all false
set_option maxRecDepth 100000
set_option maxHeartbeats 4000000
namespace DL
open PySem PySem.Spec PyProof.Rows L2 Evl
def fallAt (xs : List D) (k : D) : Bool := !ltD (xs.getD ((nI k).toNat - 1) .non) (xs.getD (nI k).toNat .non)
theorem rise_eq (xs : List D) : ((upFrom 1 ((xs.length : Int) - 1).toNat).filter (fallAt xs)).isEmpty = riseL xs := by
  rw [filt_empty]
  unfold riseL upFrom
  rw [List.all_map, List.map_map, List.all_map]
  congr 1
  funext i
  show (!(!ltD _ _)) = ltD _ _
  rw [Bool.not_not]
  have e1 : (nI (.int ((1 : Int) + (i : Nat)))).toNat = i + 1 := by show ((1 : Int) + (i : Nat)).toNat = i + 1; omega
  have e0 : (nI (.int ((0 : Int) + (i : Nat)))).toNat = i := by show ((0 : Int) + (i : Nat)).toNat = i; omega
  rw [e1]
  show _ = ltD (xs.getD (nI (.int ((0 : Int) + (i : Nat)))).toNat .non) (xs.getD ((nI (.int ((0 : Int) + (i : Nat)))).toNat + 1) .non)
  rw [e0]; rfl
theorem out_of (n hi : Int) : (!(decide ((1 : Int) ≤ n) && decide (n ≤ hi))) = (decide (n < 1) || decide (hi < n)) := by
  by_cases h1 : (1 : Int) ≤ n
  · rw [decide_eq_true h1, decide_eq_false (show ¬ n < 1 by omega)]
    by_cases h2 : n ≤ hi
    · rw [decide_eq_true h2, decide_eq_false (show ¬ hi < n by omega)]; rfl
    · rw [decide_eq_false h2, decide_eq_true (show hi < n by omega)]; rfl
  · rw [decide_eq_false h1, decide_eq_true (show n < 1 by omega)]; rfl
theorem keys_put (kvs : List (Key × D)) (q : Key) (d : D) : (putD kvs q d).map (·.1) = stepK (kvs.map (·.1)) q := by
  unfold putD stepK
  have e : ((kvs.map (·.1)).any fun x => decide (x = q)) = (kvs.any fun kv => decide (kv.1 = q)) := by rw [List.any_map]; rfl
  rw [e]
  split
  · rw [List.map_map]
    refine List.map_congr_left fun kv _ => ?_
    show (if kv.1 = q then (kv.1, d) else kv).1 = kv.1
    split <;> rfl
  · rw [List.map_append]; rfl
theorem dedK_le (ks : List Key) : (dedK ks).length ≤ ks.length := by
  have go : ∀ (ks l : List Key), (ks.foldl stepK l).length ≤ l.length + ks.length := by
    intro ks
    induction ks with
    | nil => intro l; exact Nat.le_refl _
    | cons k r ih =>
      intro l
      refine Nat.le_trans (ih _) ?_
      rw [stepK_len, List.length_cons]
      split <;> omega
  exact Nat.le_trans (go ks []) (by simp)
theorem dedK_snoc (ks : List Key) (q : Key) : dedK (ks ++ [q]) = stepK (dedK ks) q := by unfold dedK; rw [List.foldl_append]; rfl
theorem areValues_by (xs : List D) (hl : ((decide ((lenD (.tup xs) : Int) < 1) || decide ((8 : Int) < lenD (.tup xs)))) = false) :
    areValues (.tup xs) = ((xs.all isWord || xs.all fun x => isWhole x 0 99) && riseL xs) := by
  unfold areValues
  rw [if_neg (by rw [out_of, hl]; exact Bool.false_ne_true)]
  show (if (!(xs.map isWord).all id && !(xs.map fun x => isWhole x 0 99).all id) = true then false else riseL xs) = _
  rw [List.all_map, List.all_map]
  show (if (!(xs.all isWord) && !(xs.all fun x => isWhole x 0 99)) = true then false else riseL xs) = _
  cases xs.all isWord <;> cases (xs.all fun x => isWhole x 0 99) <;> rfl
theorem inF2 (n a b : Nat) : inF (.int n) [.int a, .int b] = (decide (n = a) || decide (n = b)) := by
  unfold inF
  rw [List.any_cons, List.any_cons, List.any_nil, Bool.or_false]
  show (((a : Int) == (n : Int)) || ((b : Int) == (n : Int))) = _
  rw [show ((a : Int) == (n : Int)) = decide (n = a) from by rw [Bool.eq_iff_iff]; simp; omega, show ((b : Int) == (n : Int)) = decide (n = b) from by rw [Bool.eq_iff_iff]; simp; omega]
theorem homo_by {xs : List D} (h : (xs.all isWord || xs.all fun x => isWhole x 0 99) = true) : Homo xs := by
  rcases Bool.or_eq_true_iff.mp h with h | h
  · exact .inr fun d hd => word_str (List.all_eq_true.mp h d hd)
  · exact .inl fun d hd => whole_int (List.all_eq_true.mp h d hd)
theorem len_filter_eq {α : Type} (c : α → Bool) (l : List α) : decide (l.length = (l.filter c).length) = l.all c := by
  induction l with
  | nil => rfl
  | cons x r ih =>
    rw [List.all_cons, ← ih, List.filter_cons]
    have := List.length_filter_le c r
    cases c x with
    | true => simp
    | false => simp; omega
end DL
namespace K
open PySem PySem.Spec PyProof.Rows L2 Evl DL
section
variable {P : Program} {w : World} {K : PySem.W.Frag} {mg : Str → Option Value} {base : Heap}
theorem law_rising (h : Df K mg "_law_rising" s__law_rising) (B : Bl mg) : Has P w K mg base CX0 "_law_rising" p__law_rising 1 (spF K (det1 (fun d => isTup d = true ∧ lenD d ≤ 4000 ∧ Homo (items d)) fun d => .bl (riseL (items d)))) := by
  refine hasF h sc__law_rising bn__law_rising (by rintro ds Pf PXf ⟨a, rfl, _⟩; rfl) ?_
  rintro f cdv A outer s H E hr ds Pf PXf ⟨a, rfl, ⟨ht, hl, ho⟩, rfl, rfl⟩
  obtain ⟨xs, rfl⟩ := isTup_of ht
  refine ss_ret (P1 := (· = .bl (riseL xs))) (PX := N0) ?_ (fun d e => e) (fun c z => z.elim)
  have hl' : xs.length ≤ 4000 := hl
  have key : ∀ d ∈ upFrom 1 ((xs.length : Int) - 1).toNat, ∃ i : Nat, d = .int ((1 : Int) + (i : Nat)) ∧ i + 1 < xs.length := by
    intro d hd
    unfold upFrom at hd
    obtain ⟨i, hi, rfl⟩ := List.mem_map.mp hd
    exact ⟨i, rfl, by have := List.mem_range.mp hi; omega⟩
  refine EV.toB (q_eqNil (ds := (upFrom 1 ((xs.length : Int) - 1).toNat).filter (fallAt xs)) hr.units (EV.to (q_lcf (x := "_law_k") (i := 1) (ds := upFrom 1 ((xs.length : Int) - 1).toNat) (f := fun d => d) (c := fallAt xs) rfl sc__law_rising.nd
    (i_range2 rfl B.range (AV.mono (DV.n2 e_int (q_len rfl B.len (e_slot (pv 0) rfl) rfl)) fun sl ⟨ds, e, e2⟩ => ⟨ds, e, _, _, e2, by decide, by decide, by show (xs.length : Int) ≤ _; omega, by show _ ≤ (xs.length : Int); omega, rfl⟩))
    (blkOk_by (N := N__law_rising) (sc := defScope s__law_rising) (by decide +kernel)) (fun _ _ _ _ _ => pg_name (i := 1) sc__law_rising.nd rfl (Or.inl rfl)) ?_ ?_ ?_) (by rw [List.map_id'])) ?_) (rise_eq xs)
  · rw [upFrom_len]; omega
  · intro d hd s H C' cl fp
    obtain ⟨i, rfl, hi⟩ := key d hd
    have g1 : atI xs ((1 : Int) + (i : Nat) - 1) = some (xs.getD i .non) := by rw [show (1 : Int) + (i : Int) - 1 = (i : Int) by omega]; exact atI_getD (by omega)
    have g2 : atI xs ((1 : Int) + (i : Nat)) = some (xs.getD (i + 1) .non) := by rw [show (1 : Int) + (i : Int) = ((i + 1 : Nat) : Int) by omega]; exact atI_getD hi
    have m1 : xs.getD i .non ∈ xs := getD_mem (by omega)
    have m2 : xs.getD (i + 1) .non ∈ xs := getD_mem hi
    have e1 : (nI (.int ((1 : Int) + (i : Nat)))).toNat = i + 1 := by show ((1 : Int) + (i : Nat)).toNat = i + 1; omega
    have ef : fallAt xs (.int ((1 : Int) + (i : Nat))) = !ltD (xs.getD i .non) (xs.getD (i + 1) .non) := by unfold fallAt; rw [e1]; rfl
    rw [ef]
    rcases ho with ho | ho
    · obtain ⟨x, ex⟩ := ho _ m1
      obtain ⟨y, ey⟩ := ho _ m2
      rw [ex] at g1 ⊢; rw [ey] at g2 ⊢
      exact t_not (t_lt (q_ixT (e_slot (pv 0) rfl) (q_sub (e_slot (pv 1) rfl) e_int) g1) (q_ixT (e_slot (pv 0) rfl) (e_slot (pv 1) rfl) g2))
    · obtain ⟨x, ex⟩ := ho _ m1
      obtain ⟨y, ey⟩ := ho _ m2
      rw [ex] at g1 ⊢; rw [ey] at g2 ⊢
      exact t_not (t_cmp op_lt_str (q_ixT (e_slot (pv 0) rfl) (q_sub (e_slot (pv 1) rfl) e_int) g1) (q_ixT (e_slot (pv 0) rfl) (e_slot (pv 1) rfl) g2) (nomark _) (bin_ltS rfl))
  · intro d hd _ s H C' cl fp
    exact e_slot (pv 1) rfl
  · refine sh_flat ?_ fun d hd => ?_
    · refine Nat.le_trans (List.length_filter_le _ _) ?_
      rw [upFrom_len]; omega
    · obtain ⟨i, rfl, _⟩ := key d (List.mem_filter.mp hd).1
      exact .int
theorem law_are_values (h : Df K mg "_law_are_values" s__law_are_values) (B : Bl mg) (h1 : Has P w K mg base CX0 "_law_is_word" p__law_is_word 1 (spF K (det1 (Nice 50) fun d => .bl (isWord d)))) (h2 : Has P w K mg base CX0 "_law_is_number" p__law_is_number 1 (spF K (det3 (fun _ lo hi => isInt lo = true ∧ isBool lo = false ∧ isInt hi = true ∧ isBool hi = false) fun d lo hi => .bl (isWhole d (nI lo) (nI hi)))))
    (h3 : Has P w K mg base CX0 "_law_rising" p__law_rising 1 (spF K (det1 (fun d => isTup d = true ∧ lenD d ≤ 4000 ∧ Homo (items d)) fun d => .bl (riseL (items d))))) : Has P w K mg base CX0 "_law_are_values" p__law_are_values 2 (spF K (det1 (Nice 50) fun d => .bl (areValues d))) := by
  refine hasF h sc__law_are_values bn__law_are_values (by rintro ds Pf PXf ⟨a, rfl, _⟩; rfl) ?_
  rintro f cdv A outer s H E hr ds Pf PXf ⟨a, rfl, hn, rfl, rfl⟩
  have nd := sc__law_are_values.nd
  refine ss_ifret (P1 := (· = (!isTup a || (decide ((lenD a : Int) < 1) || decide ((8 : Int) < lenD a))))) (PX := N0) (t_w (t_or (t_not (t_val (q_isTup rfl B.isinstance rfl B.tuple (e_slot (pv 0) rfl)))) fun hb => t_or (t_lt (q_len rfl B.len (e_slot (pv 0) rfl) (hn.sized (.inr (.inl (by revert hb; cases isTup a <;> simp))))) e_int) fun _ => t_or1 (t_gt (q_len rfl B.len (e_slot (pv 0) rfl) (hn.sized (.inr (.inl (by revert hb; cases isTup a <;> simp))))) e_int))) (fun hb => ?_) (fun hb => ?_) fun c z => z.elim
  · refine ss_ret (P1 := (· = .bl false)) (PX := N0) e_bl (fun d e => ⟨rfl, ?_⟩) fun c z => z.elim
    exact e.trans (congrArg D.bl (Eq.symm (show areValues a = false from ifT (by rw [out_of]; exact hb))))
  have hb := hb.symm
  rw [Bool.or_eq_false_iff] at hb
  obtain ⟨xs, rfl⟩ := isTup_of (d := a) (by have := hb.1; revert this; cases isTup a <;> simp)
  obtain ⟨hl, hx⟩ := Nice.tup (n := 49) hn
  have hx' : ∀ d ∈ xs, Nice 50 d := fun d hd => (hx d hd).mono (by decide)
  have ea := areValues_by xs hb.2
  refine ss_lc (i := 1) (own := [("_law_one", 3)]) (g := gName 3) (asg := as1 3) (PX := N0) (Pd := (· = xs)) (Pt := fun d b => b = isWord d) (Pe := fun d r => r = d) rfl nd rfl rfl rfl (i_tup (EV.mono (e_slot (pv 0) rfl) fun d e => ⟨xs, e, rfl⟩)) (blkOk_by (N := N__law_are_values) (sc := defScope s__law_are_values) (by decide +kernel)) (fun _ _ _ _ _ => pg_name (i := 3) nd rfl (Or.inl rfl)) tg1 ⟨fun _ d _ _ => ⟨_, rfl⟩, fun ds e => by rw [e]; omega, ?_, ?_⟩ ?_ fun c z => z.elim
  · rintro ds d env' e hd _ rfl s H C' cl fp
    exact e_slot (pv 3) rfl
  · rintro ds d env' e hd rfl s H C' cl fp
    exact pts_one (t_val (EV.toB (q_callB1 h1 hr rfl (e_slot (pv 3) rfl) (hx' d (e ▸ hd))) rfl))
  intro ds ws e lc
  subst e
  have ew : ws = (ds.filter isWord).map id := lc.fmap
  refine ss_lc (i := 2) (own := [("_law_one", 3)]) (g := gName 3) (asg := as1 3) (PX := N0) (Pd := (· = ds)) (Pt := fun d b => b = isWhole d 0 99) (Pe := fun d r => r = d) rfl nd rfl rfl rfl (i_tup (EV.mono (e_slot (pv 0) rfl) fun d e => ⟨ds, e, rfl⟩)) (blkOk_by (N := N__law_are_values) (sc := defScope s__law_are_values) (by decide +kernel)) (fun _ _ _ _ _ => pg_name (i := 3) nd rfl (Or.inl rfl)) tg1 ⟨fun _ d _ _ => ⟨_, rfl⟩, fun ds e => by rw [e]; omega, ?_, ?_⟩ ?_ fun c z => z.elim
  · rintro ds d env' e hd _ rfl s H C' cl fp
    exact e_slot (pv 3) rfl
  · rintro ds d env' e hd rfl s H C' cl fp
    exact pts_one (t_val (EV.toB (q_callB3 h2 hr rfl (e_slot (pv 3) rfl) e_int e_int ⟨rfl, rfl, rfl, rfl⟩) rfl))
  intro ds2 ns e lc2
  subst e
  have en : ns = (ds2.filter fun x => isWhole x 0 99).map id := lc2.fmap
  have e1 : inF (.int ds2.length) [.int ws.length, .int ns.length] = (ds2.all isWord || ds2.all fun x => isWhole x 0 99) := by
    rw [inF2, ew, en, List.length_map, List.length_map, len_filter_eq, len_filter_eq]
  refine ss_ret (P1 := (· = .bl ((ds2.all isWord || ds2.all fun x => isWhole x 0 99) && riseL ds2))) (PX := N0) ?_ (fun d e => e.trans (congrArg D.bl ea.symm)) fun c z => z.elim
  refine q_and (b1 := (ds2.all isWord || ds2.all fun x => isWhole x 0 99)) ?_ fun h => q_one ?_
  · refine EV.toB (b1 := inF (.int (lenD (.tup ds2))) [.int (lenD (.lst ws)), .int (lenD (.lst ns))]) (q_cmp op_in_seq (q_len rfl B.len (e_slot (pv 0) rfl) rfl) (q_tup2 ?_ ?_) rfl (bin_inT rfl rfl rfl)) e1
    · exact q_len rfl B.len (e_slot (pv 1) rfl) rfl
    · exact q_len rfl B.len (e_slot (pv 2) rfl) rfl
  exact EV.toB (q_callB1 h3 hr rfl (e_slot (pv 0) rfl) ⟨rfl, hl, homo_by h⟩) rfl
theorem law_are_columns (h : Df K mg "_law_are_columns" s__law_are_columns) (B : Bl mg) (h1 : Has P w K mg base CX0 "_law_is_word" p__law_is_word 1 (spF K (det1 (Nice 50) fun d => .bl (isWord d)))) (h2 : Has P w K mg base CX0 "_law_are_values" p__law_are_values 2 (spF K (det1 (Nice 50) fun d => .bl (areValues d)))) :
    Has P w K mg base CX0 "_law_are_columns" p__law_are_columns 3 (spF K (det1 (Nice 50) fun d => .bl (areColumns d))) := by
  refine hasF h sc__law_are_columns bn__law_are_columns (by rintro ds Pf PXf ⟨a, rfl, _⟩; rfl) ?_
  rintro f cdv A outer s H E hr ds Pf PXf ⟨a, rfl, hn, rfl, rfl⟩
  have nd := sc__law_are_columns.nd
  refine ss_ifret (P1 := (· = (!isTup a || (decide ((lenD a : Int) < 1) || decide ((3 : Int) < lenD a))))) (PX := N0) (t_w (t_or (t_not (t_val (q_isTup rfl B.isinstance rfl B.tuple (e_slot (pv 0) rfl)))) fun hb => t_or (t_lt (q_len rfl B.len (e_slot (pv 0) rfl) (hn.sized (.inr (.inl (by revert hb; cases isTup a <;> simp))))) e_int) fun _ => t_or1 (t_gt (q_len rfl B.len (e_slot (pv 0) rfl) (hn.sized (.inr (.inl (by revert hb; cases isTup a <;> simp))))) e_int))) (fun hb => ?_) (fun hb => ?_) fun c z => z.elim
  · refine ss_ret (P1 := (· = .bl false)) (PX := N0) e_bl (fun d e => ⟨rfl, ?_⟩) fun c z => z.elim
    exact e.trans (congrArg D.bl (Eq.symm (show areColumns a = false from ifT (by rw [out_of]; exact hb))))
  have hbf : (!isTup a || !(decide ((1 : Int) ≤ lenD a) && decide ((lenD a : Int) ≤ 3))) = false := by rw [out_of]; exact hb.symm
  have hb := hb.symm
  rw [Bool.or_eq_false_iff] at hb
  obtain ⟨xs, rfl⟩ := isTup_of (d := a) (by have := hb.1; revert this; cases isTup a <;> simp)
  obtain ⟨hl, hx⟩ := Nice.tup (n := 49) hn
  have hx' : ∀ d ∈ xs, Nice 50 d := fun d hd => (hx d hd).mono (by decide)
  refine ss_setN (i := 1) (PX := N0) nd rfl (.inl rfl) n_dict ?_ fun c z => z.elim
  rintro _ rfl
  refine ss_for (PX := N0) (Pd := (· = xs)) (asg := as1 2) (passes_of rfl) rfl (i_tup (EV.mono (e_slot (pv 0) rfl) fun d e => ⟨xs, e, rfl⟩)) (pg_name (i := 2) nd rfl (.inl rfl)) tg1 ?_ fun c z => z.elim
  intro ds0 hds0
  subst hds0
  refine Loop.ind (fun n env M => (∀ i, i < n → isColumn (ds0.getD i .non) = true) ∧ ∃ kvs s2, env = [.dat (.tup ds0), .ptr 0, s2] ∧ M = [.md kvs] ∧ kvs.map (·.1) = dedK ((ds0.take n).map fun x => keyOf (itemD x 0))) ⟨fun i h => by omega, [], _, rfl, rfl, rfl⟩ ?_ ?_
  · rintro _ _ ⟨hc, kvs, s2, rfl, rfl, hk⟩
    rw [List.take_length] at hk
    have hall : (!(ds0.map isColumn).all id) = false := by
      rw [List.all_map, List.all_eq_true.mpr]; rfl
      intro d hd
      obtain ⟨i, hi, e⟩ := List.mem_iff_getElem.mp hd
      have := hc i hi
      rw [List.getD_eq_getElem?_getD, List.getElem?_eq_getElem hi] at this
      rw [← e]; exact this
    have hlen : kvs.length = (dedK (ds0.map fun x => keyOf (itemD x 0))).length := by rw [← hk, List.length_map]
    refine ss_ret (P1 := (· = .bl (decide ((kvs.length : Int) = lenD (.tup ds0))))) (PX := N0) (EV.toB (q_eqI (q_lenD (k := 0) (kvs := kvs) rfl B.len (pv 1) rfl (.inl rfl)) (q_len rfl B.len (e_slot (pv 0) rfl) rfl)) rfl) (fun d e => e.trans (congrArg D.bl ?_)) fun c z => z.elim
    rw [hlen]
    exact (show areColumns (.tup ds0) = _ from (ifF hbf.symm).trans (ifF hall.symm)).symm
  · rintro n d hd _ _ ⟨hc, kvs, s2, rfl, rfl, hk⟩
    have hn' : n < ds0.length := (List.getElem?_eq_some_iff.mp hd).1
    have hdm : d ∈ ds0 := List.mem_of_getElem? hd
    have hdn : ds0.getD n .non = d := by rw [List.getD_eq_getElem?_getD, hd]; rfl
    refine ⟨_, rfl, ?_⟩
    refine ss_ifret (P1 := (· = !isColumn d)) (PX := N0) ?_ (fun hb2 => ?_) (fun hb2 => ?_) fun c z => z.elim
    · have ei : (!isColumn d) = (!isTup d || (!decide ((lenD d : Int) = 2) || (!isWord (itemD d 0) || !areValues (itemD d 1)))) := by
        unfold isColumn
        cases isTup d <;> cases decide ((lenD d : Int) = 2) <;> cases isWord (itemD d 0) <;> rfl
      rw [ei]
      refine t_w (t_or (t_not (t_val (q_isTup rfl B.isinstance rfl B.tuple (e_slot (pv 2) rfl)))) fun e1 => ?_)
      obtain ⟨ys, rfl⟩ := isTup_of (d := d) (by revert e1; cases isTup d <;> simp)
      refine t_or (t_neI (q_len rfl B.len (e_slot (pv 2) rfl) rfl) e_int) fun e2 => ?_
      have hl2 : ys.length = 2 := by
        have : decide (((ys.length : Nat) : Int) = 2) = true := by revert e2; show (!decide (((ys.length : Nat) : Int) = 2)) = false → _; cases decide (((ys.length : Nat) : Int) = 2) <;> simp
        have := of_decide_eq_true this; omega
      have hy := (Nice.tup (n := 49) (hx' _ hdm)).2
      refine t_or (t_not (t_val (EV.toB (q_callB1 h1 (hr.mono (by decide)) rfl (q_ixT (e_slot (pv 2) rfl) e_int (atI_getD (i := 0) (by omega))) ((hy _ (getD_mem (by omega))).mono (by decide))) rfl))) fun e3 => t_or1 (t_not (t_val (EV.toB (q_callB1 h2 hr rfl (q_ixT (e_slot (pv 2) rfl) e_int (atI_getD (i := 1) (by omega))) ((hy _ (getD_mem (by omega))).mono (by decide))) rfl)))
    · refine ss_ret (P1 := (· = .bl false)) (PX := N0) e_bl (fun d' e => ⟨rfl, e.trans (congrArg D.bl (Eq.symm ?_))⟩) fun c z => z.elim
      have hall : true = (!(ds0.map isColumn).all id) := by
        rw [List.all_map]
        have : ds0.all isColumn = false := by
          rw [List.all_eq_false]
          exact ⟨d, hdm, by revert hb2; cases isColumn d <;> simp⟩
        show true = !ds0.all isColumn
        rw [this]; rfl
      exact (show areColumns (.tup ds0) = _ from (ifF hbf.symm).trans (ifT hall))
    · have hcd : isColumn d = true := by revert hb2; cases isColumn d <;> simp
      have hcd0 := hcd
      unfold isColumn at hcd
      rw [Bool.and_eq_true, Bool.and_eq_true, Bool.and_eq_true] at hcd
      obtain ⟨ys, rfl⟩ := isTup_of hcd.1
      have hl2 : ys.length = 2 := by have : ((ys.length : Nat) : Int) = 2 := of_decide_eq_true hcd.2.1; omega
      obtain ⟨z, hz⟩ := word_str hcd.2.2.1
      refine ss_putD (i := 1) (k := 0) (kvs := kvs) (PX := N0) (Pd := (· = .bl true)) (Pk := (· = Sum.inr z)) hr.u1 (pv 1) rfl rfl (EV.mono (q_ixT (d := .str z) (e_slot (pv 2) rfl) e_int (by rw [← hz]; exact atI_getD (i := 0) (by omega))) fun d e => ⟨.inr z, e, rfl⟩) ?_ e_bl ?_ fun c z => z.elim
      · have : kvs.length ≤ n := by
          rw [← List.length_map (f := (·.1)), hk]
          exact Nat.le_trans (dedK_le _) (by rw [List.length_map, List.length_take]; omega)
        omega
      · rintro q _ rfl rfl
        refine ss_nil ⟨fun i hi => ?_, _, _, rfl, rfl, ?_⟩
        · by_cases e : i = n
          · rw [e, hdn]; exact hcd0
          · exact hc i (by omega)
        · rw [keys_put, hk, List.take_succ, hd, List.map_append]
          show _ = dedK (_ ++ [keyOf (itemD (.tup ys) 0)])
          rw [dedK_snoc, hz]; rfl
end
end K

set_option Elab.async false
set_option linter.all false
set_option maxRecDepth 100000
set_option maxHeartbeats 4000000
namespace DL
open PySem PySem.Spec PyProof.Rows L2 Evl
/-- no two columns of a name -/
def Apart (cs : List Cl) : Prop := (cs.map (·.1)).Nodup
theorem valsOf_self {cs : List Cl} (h : Apart cs) {i : Nat} (hi : i < cs.length) : valsOf cs cs[i].1 = cs[i].2 := by
  have e : spotOf cs cs[i].1 = i := by
    unfold spotOf
    refine (List.findIdx_eq hi).mpr ⟨decide_eq_true rfl, fun j hj => decide_eq_false fun q => ?_⟩
    have hnd := (List.pairwise_iff_getElem.mp h) j i (by rw [List.length_map]; omega) (by rw [List.length_map]; exact hi) hj
    rw [List.getElem_map, List.getElem_map] at hnd
    exact hnd q
  unfold valsOf
  rw [e, List.getD_eq_getElem?_getD, List.getElem?_eq_getElem hi]; rfl
theorem zipAll {cs : List Cl} {xs : List D} (hl : xs.length = cs.length) (g : Cl → D → Bool) : (List.zipWith g cs xs).all id = true ↔ ∀ i (h : i < cs.length) (h2 : i < xs.length), g cs[i] xs[i] = true := by
  rw [List.all_eq_true]
  constructor
  · intro h i hi h2
    exact h _ (List.mem_iff_getElem.mpr ⟨i, by rw [List.length_zipWith]; omega, by rw [List.getElem_zipWith]⟩)
  · intro h x hx
    obtain ⟨i, hi, e⟩ := List.mem_iff_getElem.mp hx
    rw [List.length_zipWith] at hi
    rw [List.getElem_zipWith] at e
    rw [← e]; exact h i (by omega) (by omega)
end DL
namespace K
open PySem PySem.Spec PyProof.Rows L2 Evl DL
section
variable {P : Program} {w : World} {K : PySem.W.Frag} {mg : Str → Option Value} {base : Heap}
abbrev RIsRow (ds : List D) (Pf : D → Prop) (PXf : Value → Prop) : Prop := ∃ cs v, ds = [colsD cs, v] ∧ Fit cs ∧ Apart cs ∧ Nice 50 v ∧ Pf = (· = .bl (isRow cs v)) ∧ PXf = N0
theorem law_is_row (h : Df K mg "_law_is_row" s__law_is_row) (B : Bl mg) : Has P w K mg base CX0 "_law_is_row" p__law_is_row 1 (spF K RIsRow) := by
  refine hasF h sc__law_is_row bn__law_is_row (by rintro ds Pf PXf ⟨cs, v, rfl, _⟩; rfl) ?_
  rintro f cdv A outer s H E hr ds Pf PXf ⟨cs, v, rfl, hf, ha, hn, rfl, rfl⟩
  have nd := sc__law_is_row.nd
  refine ss_ifret (P1 := (· = (!isTup v || !decide ((lenD v : Int) = cs.length)))) (PX := N0) ?_ (fun hb => ?_) (fun hb => ?_) fun c z => z.elim
  · refine BV.to (t_w (t_or (t_not (t_val (q_isTup rfl B.isinstance rfl B.tuple (e_slot (pv 1) rfl)))) fun hb => t_or1 (t_neI (q_len rfl B.len (e_slot (pv 1) rfl) (hn.sized (.inr (.inl (by revert hb; cases isTup v <;> simp))))) (q_len rfl B.len (e_slot (pv 0) rfl) rfl)))) ?_
    show (_ || !decide ((lenD v : Int) = lenD (.tup (cs.map colD)))) = _
    rw [show (lenD (.tup (cs.map colD))) = cs.length from List.length_map ..]
  · refine ss_ret (P1 := (· = .bl false)) (PX := N0) e_bl (fun d e => ⟨rfl, ?_⟩) fun c z => z.elim
    exact e.trans (congrArg D.bl (show isRow cs v = false from ifT hb).symm)
  have hT : isTup v = true := by revert hb; cases isTup v <;> simp
  obtain ⟨xs, rfl⟩ := isTup_of hT
  have hl : xs.length = cs.length := by
    have : decide ((lenD (.tup xs) : Int) = cs.length) = true := by revert hb; cases decide ((lenD (.tup xs) : Int) = cs.length) <;> simp
    exact Int.ofNat.inj (of_decide_eq_true this)
  have er : isRow cs (.tup xs) = (List.zipWith (fun c v => isValueL (valsOf cs c.1) v) cs xs).all id := ifF hb
  have hpl : (pairsD xs (cs.map colD)).length = cs.length := by unfold pairsD; rw [List.length_zipWith, List.length_map]; omega
  refine ss_for (PX := N0) (Pd := (· = pairsD xs (cs.map colD))) (asg := as2 2 3) (passes_of rfl) rfl (i_zipT rfl B.zip (e_slot (pv 1) rfl) (e_slot (pv 0) rfl)) (pg_tup rfl (pgs_cons (pg_name (i := 2) nd rfl (.inl rfl)) (pgs_cons (pg_name (i := 3) nd rfl (.inl rfl)) pgs_nil))) (tg2 (by decide)) ?_ (fun c z => z.elim)
  rintro _ rfl
  refine Loop.ind (fun n env M => (∀ i (h1 : i < cs.length) (h2 : i < xs.length), i < n → isValueL cs[i].2 xs[i] = true) ∧ ∃ s2 s3, env = [.dat (colsD cs), .dat (.tup xs), s2, s3] ∧ M = []) ⟨fun i _ _ h => by omega, _, _, rfl, rfl⟩ ?_ ?_
  · rintro _ _ ⟨hall, s2, s3, rfl, rfl⟩
    refine ss_ret (P1 := (· = .bl true)) (PX := N0) e_bl (fun d e => e.trans (congrArg D.bl (Eq.symm ?_))) fun c z => z.elim
    rw [er, zipAll hl]
    intro i h1 h2
    rw [valsOf_self ha h1]
    exact hall i h1 h2 (by rw [hpl]; exact h1)
  · rintro n d hd _ _ ⟨hall, s2, s3, rfl, rfl⟩
    have hn1 : n < cs.length := by rw [← hpl]; exact (List.getElem?_eq_some_iff.mp hd).1
    have hn2 : n < xs.length := by omega
    obtain ⟨x, hx⟩ : ∃ x, xs[n] = x := ⟨_, rfl⟩
    obtain ⟨c, hc⟩ : ∃ c, cs[n] = c := ⟨_, rfl⟩
    rw [pairs_get (a := x) (b := .tup [.str c.1, .tup c.2]) (by rw [List.getElem?_eq_getElem hn2, hx]) (by rw [List.getElem?_map, List.getElem?_eq_getElem hn1, hc]; rfl)] at hd
    cases hd
    refine ⟨_, ⟨_, _, rfl, rfl⟩, ?_⟩
    have hfl : c.2.all flatD = true := by rw [← hc]; exact hf.flat _ (List.getElem_mem _)
    refine ss_ifret (P1 := (· = !isValueL c.2 x)) (PX := N0) ?_ (fun hb2 => ?_) (fun hb2 => ?_) fun c z => z.elim
    · have ei : (!isValueL c.2 x) = (isBool x || (!(DL.isInt x || isStr x) || !inF x c.2)) := by
        unfold isValueL
        cases isBool x <;> cases (DL.isInt x || isStr x) <;> rfl
      rw [ei]
      refine t_w (t_or (t_val (q_isBool rfl B.isinstance rfl B.bool (e_slot (pv 2) rfl))) fun e1 => t_or (t_not (t_val (e_isi2 (P := (· = .bl (DL.isInt x || isStr x))) (P1 := (· = x)) rfl B.isinstance rfl B.int boot_int kit_int rfl B.str boot_str kit_str (e_slot (pv 2) rfl) fun d e => by rw [e]))) fun e2 => t_or1 (t_cmp op_notIn_seq (e_slot (pv 2) rfl) (q_ixT (d := .tup c.2) (e_slot (pv 3) rfl) e_int (atI_nat (j := 1) rfl)) rfl (bin_niT ?_ hfl rfl)))
      cases x <;> first | rfl | (exfalso; revert e1 e2; simp [isBool, DL.isInt, isStr]; done)
    · refine ss_ret (P1 := (· = .bl false)) (PX := N0) e_bl (fun d e => ⟨rfl, e.trans (congrArg D.bl (Eq.symm ?_))⟩) fun c z => z.elim
      rw [er, Bool.eq_false_iff]
      intro h
      have := (zipAll hl _).mp h n hn1 hn2
      rw [valsOf_self ha hn1, hc, hx] at this
      rw [this] at hb2; cases hb2
    · refine ss_nil ⟨fun i h1 h2 h3 => ?_, _, _, rfl, rfl⟩
      by_cases e : i = n
      · subst e; rw [hc, hx]; revert hb2; cases isValueL c.2 x <;> simp
      · exact hall i h1 h2 (by omega)
end
end K

set_option Elab.async false
set_option linter.all false
set_option maxRecDepth 100000
set_option maxHeartbeats 4000000
namespace DL
open PySem PySem.Spec PyProof.Rows L2 Evl
theorem cont_of {M : List MO} {k : Nat} {ds : List D} (h : M[k]? = some (.ml ds)) : cont M (.ptr k) = some (.lst ds) := by
  show (match M[k]? with | some (.ml ds) => some (D.lst ds) | _ => none) = _
  rw [h]
section
variable {X : Cx} {E : WK} {env : List Slot} {M : List MO} {PX : Value → Prop} {a b o value : Expr} {rest : List Stmt} {pos pos' cpos apos : Pos} {P : Out → Prop} {ds : List D} {i k n m : Nat}
/-- xs.clear() -/
theorem ss_clear (h : PE X o (tVar i)) (hei : env[i]? = some (.ptr k)) (hm : M[k]? = some (.ml ds)) (hr : BS X E env (M.set k (.ml [])) rest P)
    (hbase : attributeBase o "clear" X.env (eval o X.env) = eval o X.env := by rfl) (hline : (apos.endLine == cpos.line) = true := by rfl) (hs : swapsWith (.Call (.Attribute o "clear" apos) [] [] cpos) none pos.line X.env = pure false := by rfl) : BS X E env M (.Expr (.Call (.Attribute o "clear" apos) [] [] cpos) pos :: rest) P := by
  refine ss_cons (P1 := fun o => o = .nx env (M.set k (.ml []))) (PS.imp (ps_expr (pe_bm0 PySem.F.plainAttrs_list PySem.F.slot_list_clear PySem.F.type_list_clear mt_clear h hbase hline) hs) fun Dn σ H ⟨S, as, ok, en, kk⟩ => ?_) ?_ ?_
  · obtain ⟨o1, ho, s⟩ := en.get hei
    obtain ⟨q, hq, rfl⟩ := s
    obtain ⟨xs, hS, hv, rl⟩ := ok.list hq hm
    obtain ⟨ok4, p4⟩ := ok.mutL (ds := []) (xs := []) hq hS rfl
    exact ⟨_, ho, .inl ⟨rfl, xs, sq_of hv⟩, q, xs, rfl, rfl, hv, (kk _ rfl).go p4 ok4 (en.ex p4.ex)⟩
  · rintro env1 M1 e; cases e; exact hr
  · rintro o e hn; rw [e] at hn; cases hn
theorem eqv_same {n : Nat} {d : D} (h : Nice n d) : PyData.eqv d.py d.py = true := PySem.SeqAt.eqv_refl _ h.lay.1
/-- a list of one's own is a list -/
theorem q_ownLst {p p2 : Pos} (hg : Gl X "isinstance") (hm : X.mg "isinstance" = none) (hg2 : Gl X "list") (hm2 : X.mg "list" = none) (ha : XV X E env M a (.ptr k) PX) (hk : M[k]? = some (.ml ds))
    (h1 : starEach [a, .Name "list" p2] X.env = (false, eval a X.env) :: starEach [.Name "list" p2] X.env := by rfl) (h2 : starEach [.Name "list" p2] X.env = (false, eval (.Name "list" p2) X.env) :: starEach [] X.env := by rfl) (hpl : (backTo pos (starEach [.Name "list" p2] X.env)).any (·.1) = false := by rfl) :
    EV X E env M (.Call (.Name "isinstance" p) [a, .Name "list" p2] [] pos) (· = .bl true) PX :=
  qx_isi (T := "list") (isT := isLst) hg hm hg2 hm2 (by decide +kernel) kit_lst ha (cont_of hk) (by decide) (by decide) h1 h2 hpl
end
end DL

set_option Elab.async false
set_option linter.all false
set_option maxRecDepth 100000
set_option maxHeartbeats 4000000
namespace DL
open PySem PySem.Spec PyProof.Rows L2 Evl
theorem foldK_le : ∀ (ks l : List Key), (ks.foldl stepK l).length ≤ l.length + ks.length
  | [], l => Nat.le_refl _
  | k :: r, l => by
    refine Nat.le_trans (foldK_le r _) ?_
    rw [stepK_len, List.length_cons]
    split <;> omega
theorem foldK_nd : ∀ (ks l : List Key), l.Nodup → (ks.foldl stepK l).length = l.length + ks.length → (l ++ ks).Nodup
  | [], l, h, _ => by rw [List.append_nil]; exact h
  | k :: r, l, h, e => by
    have le := foldK_le r (stepK l k)
    rw [List.foldl_cons, List.length_cons] at e
    have hs := stepK_len l k
    by_cases hk : (l.any fun x => decide (x = k)) = true
    · rw [if_pos hk] at hs; omega
    · have es : stepK l k = l ++ [k] := by unfold stepK; rw [if_neg hk]
      rw [es] at e
      have hkl : k ∉ l := fun z => hk (List.any_eq_true.mpr ⟨k, z, decide_eq_true rfl⟩)
      have := foldK_nd r (l ++ [k]) (by
        rw [List.nodup_append]
        exact ⟨h, by simp, fun a ha b hb => by rw [List.mem_singleton.mp hb]; rintro rfl; exact hkl ha⟩) (by rw [e, List.length_append]; show _ = _ + 1 + _; omega)
      rwa [List.append_assoc] at this
theorem values_fit {d : D} (h : areValues d = true) : ∃ vs, d = .tup vs ∧ vs.all flatD = true ∧ vs.length ≤ 8 ∧ 1 ≤ vs.length := by
  have h1 : (!isTup d || !(decide ((1 : Int) ≤ lenD d) && decide ((lenD d : Int) ≤ 8))) = false := by
    cases e : (!isTup d || !(decide ((1 : Int) ≤ lenD d) && decide ((lenD d : Int) ≤ 8))) with
    | false => rfl
    | true => unfold areValues at h; rw [if_pos e] at h; cases h
  have h0 := h1
  rw [Bool.or_eq_false_iff, out_of, Bool.or_eq_false_iff] at h1
  obtain ⟨vs, rfl⟩ := isTup_of (d := d) (by have := h1.1; revert this; cases isTup d <;> simp)
  rw [areValues_by vs (by rw [h1.2.1, h1.2.2]; rfl), Bool.and_eq_true] at h
  have a1 : ¬ ((vs.length : Int) < 1) := of_decide_eq_false h1.2.1
  have a2 : ¬ ((8 : Int) < vs.length) := of_decide_eq_false h1.2.2
  refine ⟨vs, rfl, ?_, by omega, by omega⟩
  rw [List.all_eq_true]
  intro x hx
  rcases homo_by h.1 with ho | ho
  · obtain ⟨i, rfl⟩ := ho x hx; rfl
  · obtain ⟨i, rfl⟩ := ho x hx; rfl
theorem column_fit {d : D} (h : isColumn d = true) : ∃ c : Cl, d = colD c ∧ c.2.all flatD = true ∧ c.2.length ≤ 8 ∧ 1 ≤ c.2.length := by
  unfold isColumn at h
  rw [Bool.and_eq_true, Bool.and_eq_true, Bool.and_eq_true] at h
  obtain ⟨ys, rfl⟩ := isTup_of h.1
  have hl : ys.length = 2 := by have : ((ys.length : Nat) : Int) = 2 := of_decide_eq_true h.2.1; omega
  obtain ⟨z, hz⟩ := word_str h.2.2.1
  obtain ⟨vs, hv, v1, v2, v3⟩ := values_fit h.2.2.2
  match ys, hl with
  | [a, b], _ =>
    have ea : a = .str z := hz
    have eb : b = .tup vs := hv
    exact ⟨(z, vs), by rw [ea, eb]; rfl, v1, v2, v3⟩
theorem columns_list : ∀ {cs : List D}, (∀ d ∈ cs, isColumn d = true) → ∃ cl : List Cl, cs = cl.map colD ∧ ∀ c ∈ cl, c.2.all flatD = true ∧ c.2.length ≤ 8 ∧ 1 ≤ c.2.length
  | [], _ => ⟨[], rfl, fun _ h => nomatch h⟩
  | d :: r, h => by
    obtain ⟨cl, e, hc⟩ := columns_list (cs := r) fun d hd => h d (List.mem_cons_of_mem _ hd)
    obtain ⟨c, e2, h2⟩ := column_fit (h d List.mem_cons_self)
    exact ⟨c :: cl, by rw [e, e2]; rfl, fun x hx => (List.mem_cons.mp hx).elim (fun e => e ▸ h2) (hc x)⟩
theorem columns_fit {cs : List D} (h : areColumns (.tup cs) = true) : ∃ cl : List Cl, cs = cl.map colD ∧ Fit cl ∧ Apart cl ∧ ∀ c ∈ cl, 1 ≤ c.2.length := by
  unfold areColumns at h
  split at h
  · cases h
  rename_i h1
  split at h
  · cases h
  rename_i h2
  have h2 : (cs.map isColumn).all id = true := by
    cases e : (cs.map isColumn).all id with
    | true => rfl
    | false => exact absurd (show (!((items (D.tup cs)).map isColumn).all id) = true by show (!(cs.map isColumn).all id) = true; rw [e]; rfl) h2
  rw [List.all_map, List.all_eq_true] at h2
  obtain ⟨cl, rfl, hc⟩ := columns_list h2
  have hle : cl.length ≤ 3 := by
    have h1 : (!isTup (.tup (cl.map colD)) || !(decide ((1 : Int) ≤ lenD (.tup (cl.map colD))) && decide ((lenD (.tup (cl.map colD)) : Int) ≤ 3))) = false := by revert h1; cases (!isTup (.tup (cl.map colD)) || !(decide ((1 : Int) ≤ lenD (.tup (cl.map colD))) && decide ((lenD (.tup (cl.map colD)) : Int) ≤ 3))) <;> simp
    rw [Bool.or_eq_false_iff, out_of, Bool.or_eq_false_iff] at h1
    have a2 : ¬ ((3 : Int) < (cl.map colD).length) := of_decide_eq_false h1.2.2
    rw [List.length_map] at a2; omega
  refine ⟨cl, rfl, ⟨hle, fun c hc' => (hc c hc').1, fun c hc' => (hc c hc').2.1⟩, ?_, fun c hc' => (hc c hc').2.2⟩
  have e : (dedK ((cl.map colD).map fun x => keyOf (itemD x 0))).length = (cl.map colD).length := by have := of_decide_eq_true h; exact Int.ofNat.inj this
  have e2 : ((cl.map colD).map fun x => keyOf (itemD x 0)) = (cl.map (·.1)).map Sum.inr := by rw [List.map_map, List.map_map]; rfl
  rw [e2] at e
  have nd := foldK_nd ((cl.map (·.1)).map Sum.inr) [] List.nodup_nil (by show (dedK _).length = _; rw [e]; simp)
  rw [List.nil_append] at nd
  unfold Apart
  exact (List.pairwise_map.mp nd).imp fun h e => h (by rw [e])
end DL

set_option Elab.async false
set_option linter.all false
set_option maxRecDepth 100000
set_option maxHeartbeats 4000000
namespace DL
open PySem PySem.Spec PyProof.Rows L2 Evl
abbrev RLaw (ds : List D) (Pf : D → Prop) (PXf : Value → Prop) : Prop := ∃ is : List Int, ds = [.lst (is.map .int)] ∧ is.length ≤ 63 ∧ Pf = (· = .bl true) ∧ PXf = N0
section
variable {X : Cx} {E : WK} {env : List Slot} {M : List MO} {PX : Value → Prop} {a b c : Expr} {es : List Expr} {pos p : Pos} {i k j n : Nat}
theorem e_other {kk b0 m : Nat} {ps : List Str} {xs : List D} (h : Has X.prog X.w X.K X.mg X.base CX0 "_law_otherwise" ps kk (spW X.K (ROther n))) (hr : Room kk X.A) (hg : Gl X "_law_otherwise") (hw : PE X a (tVar i)) (hei : env[i]? = some (.ptr j)) (hj : M[j]? = some .well)
    (hb : EV X E env M b (· = .tup xs) PX) (hc : EV X E env M c (· = .int (n : Int)) PX) (hnb : NB b0 m (.tup xs)) (h0 : 20 ≤ b0) (h1 : b0 ≤ 1000) (h2 : n + 5 ≤ m) (h3 : m ≤ 40)
    (he : starEach [a, b, c] X.env = (false, eval a X.env) :: starEach [b, c] X.env := by rfl) (he2 : starEach [b, c] X.env = (false, eval b X.env) :: starEach [c] X.env := by rfl) (he3 : starEach [c] X.env = (false, eval c X.env) :: starEach [] X.env := by rfl) (hpl : (backTo pos (starEach [b, c] X.env)).any (·.1) = false := by rfl) : EV X E env M (.Call (.Name "_law_otherwise" p) [a, b, c] [] pos) (NB (b0 + 8) m) PX :=
  e_callW h hr hg (a_ptr hw hei (DV.n2 hb hc he2 he3) he) hj (fun sl ⟨r, e1, ds, e2, e3⟩ => ⟨ds, _, by rw [e1, e2], ⟨xs, b0, m, e3, hnb, h0, h1, h2, h3, rfl⟩, fun d q => q⟩) (by decide) he hpl
end
section
variable {X : Cx} {E : WK} {env : List Slot} {M : List MO} {PX : Value → Prop} {a b c : Expr} {pos p : Pos} {i k : Nat} {ds : List D}
theorem e_pickP {Pe : D → Prop} {C : Int → Prop} (ha : PE X a (tVar i)) (hei : env[i]? = some (.ptr k)) (hm : M[k]? = some (.ml ds)) (hb : IE X E env M b C PX) (hC : ∀ i, C i → 0 ≤ i ∧ i < (ds.length : Int)) (h : ∀ x ∈ ds, Pe x) (hs : PlainIx b := by exact fun _ _ => rfl) : EV X E env M (.Subscript a b pos) Pe PX :=
  PE.imp (pe_ix ix_list (x_ptr (M := M) (PX := PX) (E := E) ha hei) hb hs) fun σ H Q ⟨S, as, ok, en, kk, x⟩ => ⟨S, as, ok, en, fun v S1 H1 p1 ok1 r1 => by
    refine ⟨S1, as, ok1, en.ex p1.ex, fun d2 u S2 H2 e2 p2 ok2 r2 => ?_, fun c S2 H2 pc p2 => x c S2 H2 pc (p1.trans p2)⟩
    obtain ⟨n, rfl, hn⟩ := e2
    obtain rfl : u = .int n := r2
    obtain ⟨n0, n1⟩ := hC n hn
    obtain ⟨m, rfl⟩ := Int.eq_ofNat_of_zero_le n0
    obtain ⟨q, hq, e1⟩ := r1
    cases e1
    obtain ⟨xs, hS, hv, rl⟩ := ok2.list hq hm
    have hl := rl.length
    obtain ⟨d, hd⟩ : ∃ d, ds[m]? = some d := ⟨_, List.getElem?_eq_getElem (by omega)⟩
    obtain ⟨y, hy, ry⟩ := rl.get hd
    exact ⟨q, xs, m, y, rfl, rfl, sq_of hv, by show atI xs _ = _; exact atI_nat hy, kk _ _ S2 H2 (h d (List.mem_of_getElem? hd)) (p1.trans p2) ok2 ry⟩, x⟩
end
theorem rows_nb {cl : List Cl} {b n : Nat} (hf : Fit cl) (h : NB b (n + 2) (.tup (cl.map colD))) : ∀ k, k ≤ cl.length → ∀ r ∈ allRows (cl.take k), ∀ d ∈ r, NB b n d := by
  intro k
  induction k with
  | zero => intro _ r hr d hd; rw [List.mem_singleton.mp hr] at hd; cases hd
  | succ k ih =>
    intro hk r hr d hd
    rw [allRows_take hk] at hr
    unfold longer at hr
    obtain ⟨r0, h0, h1⟩ := List.mem_flatMap.mp hr
    obtain ⟨v, hv, rfl⟩ := List.mem_map.mp h1
    rcases List.mem_append.mp hd with hd | hd
    · exact ih (by omega) r0 h0 d hd
    · rw [List.mem_singleton.mp hd]
      obtain ⟨m, e, _, h2⟩ := h.items
      have hc := h2 (colD cl[k]) (List.mem_map.mpr ⟨_, List.getElem_mem hk, rfl⟩)
      obtain ⟨m2, e2, _, h3⟩ := NB.items (ds := [.str cl[k].1, .tup cl[k].2]) hc
      have h4 := h3 (.tup cl[k].2) (by simp)
      obtain ⟨m3, e3, _, h5⟩ := h4.items
      exact (h5 v hv).mono (Nat.le_refl _) (by omega)
theorem rows_some {cl : List Cl} (h : ∀ c ∈ cl, 1 ≤ c.2.length) : ∀ k, k ≤ cl.length → 1 ≤ (allRows (cl.take k)).length := by
  intro k
  induction k with
  | zero => intro _; exact Nat.le_refl _
  | succ k ih =>
    intro hk
    rw [allRows_take hk, longer_len]
    exact Nat.mul_le_mul (ih (by omega)) (h _ (List.getElem_mem hk))
/-- what all rows are, as data -/
theorem rows_data {cl : List Cl} {b : Nat} (hf : Fit cl) (h : NB b 5 (.tup (cl.map colD))) (hb : b ≤ 512) : NB 512 5 (.lst ((allRows cl).map rowD)) ∧ ∀ r ∈ allRows cl, NB (max b 3) 4 (.tup r) := by
  have e : cl.take cl.length = cl := List.take_length ..
  have h1 := rows_nb (n := 3) hf h cl.length (Nat.le_refl _)
  have h2 := hf.rows cl.length (Nat.le_refl _)
  rw [e] at h1 h2
  have h3 : ∀ r ∈ allRows cl, NB (max b 3) 4 (.tup r) := fun r hr => .tup (by rw [h2.2 r hr]; have := hf.few; omega) fun d hd => (h1 r hr d hd).mono (by omega) (Nat.le_refl _)
  refine ⟨.lst (by rw [List.length_map]; exact Nat.le_trans h2.1 (pow8 hf.few)) fun d hd => ?_, h3⟩
  obtain ⟨r, hr, rfl⟩ := List.mem_map.mp hd
  exact (h3 r hr).mono (by omega) (Nat.le_refl _)
end DL
namespace K
open PySem PySem.Spec PyProof.Rows L2 Evl DL
section
variable {P : Program} {w : World} {K : PySem.W.Frag} {mg : Str → Option Value} {base : Heap}
theorem law {f : Addr} {fd : FuncData} (F : FunD K "law" "law" (defArgs s_law) (defBody s_law) (defScope s_law) [] [] f fd) (B : Bl mg) (hTake : Has P w K mg base CX0 "_law_take" p__law_take 1 (spW K RTake)) (hWell : Has P w K mg base CX0 "_law_well" p__law_well 1 (spN K RWell)) (hCols : Has P w K mg base CX0 "_law_columns" p__law_columns 3 (spW K RCols))
    (hThing : ∀ n : Nat, Has P w K mg base CX0 "_law_thing" p__law_thing (n + 2) (spW K (RThing n))) (hOther : ∀ n : Nat, Has P w K mg base CX0 "_law_otherwise" p__law_otherwise (n + 5) (spW K (ROther n)))
    (hSays : Has P w K mg base CX0 "_law_says" p__law_says 1 (spF K (det2 (fun a b => isBool a = true ∧ isBool b = true) fun a b => .bl (eqD a b))))
    (hAC : Has P w K mg base CX0 "are_columns" p_are_columns 4 (spF K (det1 (Nice 50) fun d => .bl (areColumns d)))) (hLAC : Has P w K mg base CX0 "_law_are_columns" p__law_are_columns 3 (spF K (det1 (Nice 50) fun d => .bl (areColumns d))))
    (hRows : Has P w K mg base CX0 "_law_rows" p__law_rows 1 (spN K RRows)) (hAll : Has P w K mg base CX0 "all_rows" p_all_rows 1 (spN K RRows))
    (hIsRow : Has P w K mg base CX0 "is_row" p_is_row 4 (spF K fun ds Pf PXf => ∃ cs v, ds = [colsD cs, v] ∧ Fit cs ∧ Nice 50 v ∧ Pf = (· = .bl (isRow cs v)) ∧ PXf = N0)) (hLIsRow : Has P w K mg base CX0 "_law_is_row" p__law_is_row 1 (spF K RIsRow)) :
    FnOk P w K mg base CX0 10 f fd p_law (spF K RLaw) := by
  refine fnF F sc_law (by rintro ds Pf PXf ⟨is, rfl, _⟩; rfl) ?_
  rintro cdv A outer s H E hr ds Pf PXf ⟨is, rfl, hl, rfl, rfl⟩
  have nd := sc_law.nd
  refine ss_for (PX := N0) (Pd := fun ds => ∃ n : Nat, ds = upFrom 0 n ∧ n ≤ 63) (asg := as1 1) (passes_of rfl) rfl (i_upto (C := fun i => 1 ≤ i ∧ i ≤ 63) rfl B.range (IE.of (q_max2 rfl B.max rfl e_int (q_min2 rfl B.min rfl e_int (q_len rfl B.len (e_slot (pv 0) rfl) rfl))) ?_) fun i hi => ⟨by omega, by omega, i.toNat, rfl, by omega⟩) (pg_name (i := 1) nd rfl (.inl rfl)) tg1 ?_ fun c z => z.elim
  · have e : (lenD (.lst (is.map .int)) : Int) = is.length := by show (((is.map D.int).length : Nat) : Int) = _; rw [List.length_map]
    rw [e]
    split <;> split <;> omega
  rintro _ ⟨m, rfl, hm⟩
  refine Loop.ind (fun n env M => ∃ s1 s2 s3 s4 s5 s6 s7 s8 s9, env = [.dat (.lst (is.map .int)), s1, s2, s3, s4, s5, s6, s7, s8, s9]) ⟨_, _, _, _, _, _, _, _, _, rfl⟩ ?_ ?_
  · rintro _ M ⟨s1, s2, s3, s4, s5, s6, s7, s8, s9, rfl⟩
    exact ss_ret (P1 := (· = .bl true)) (PX := N0) e_bl (fun d e => e) fun c z => z.elim
  rintro n d hd _ M ⟨s1, s2, s3, s4, s5, s6, s7, s8, s9, rfl⟩
  have hn : n < m := by have := (List.getElem?_eq_some_iff.mp hd).1; rwa [upFrom_len] at this
  rw [upFrom_get hn] at hd
  cases hd
  refine ⟨_, rfl, ?_⟩
  -- the well
  refine ss_setN (i := 2) (P1 := (· = .well)) (PX := N0) nd rfl (.inl rfl) (n_call0 (hWell.mono (by decide)) hr rfl (DV.n2 (e_slot (pv 0) rfl) (e_slot (pv 1) rfl)) fun sl ⟨ds, e, e2⟩ => ⟨ds, _, e, ⟨is, (0 : Int) + (n : Nat), e2, by omega, by omega, by omega, rfl⟩, fun d q => q⟩) ?_ fun c z => z.elim
  rintro _ rfl
  have hw : (M ++ [MO.well])[M.length]? = some .well := by simp
  -- columns
  refine ss_set (i := 3) (P1 := fun d => ∃ cs, d = .tup cs ∧ NB 60 4 d) (PX := N0) nd rfl (.inl rfl) (e_callW (j := M.length) (hCols.mono (by decide)) hr rfl (a_ptr (pv 2) rfl (d_cons (P1 := fun d => ∃ x, d = .int x ∧ 0 < x ∧ x ≤ 50) (e_pick (n := 2) (e_lstA (dva (i_int (by decide)) (dva (i_int (by decide)) dva_nil)) (by decide)) (i_take (B := 2) (hTake.mono (by decide)) hr rfl (pv 2) rfl hw (i_int (by decide)) (by decide)))
    (d_cons (P1 := fun d => ∃ x, d = .int x ∧ 0 < x ∧ x ≤ 50) (e_pick (n := 2) (e_lstA (dva (i_int (by decide)) (dva (i_int (by decide)) dva_nil)) (by decide)) (i_take (B := 2) (hTake.mono (by decide)) hr rfl (pv 2) rfl hw (i_int (by decide)) (by decide))) d_nil))) hw fun sl ⟨r, e1, ds, e2, d1, r1, e3, ⟨x, e4, x0, x1⟩, d2, r2, e5, ⟨y, e6, y0, y1⟩, e7⟩ => ⟨ds, _, by rw [e1, e2], ⟨x, y, by rw [e3, e4, e5, e6, e7], x0, x1, y0, y1, rfl⟩, fun d q => q⟩) ?_ fun c z => z.elim
  rintro _ ⟨cs, rfl, hcs⟩
  have hcn : Nice 50 (.tup cs) := (hcs.nice (by decide)).mono (by decide)
  -- things
  refine ss_setN (i := 4) (P1 := fun mo => ∃ l, mo = .ml l ∧ l.length = 2 ∧ ∀ x ∈ l, Nice 50 x) (PX := N0) nd rfl (.inl rfl) (n_lstA (dva (EV.mono (e_slot (pv 3) rfl) fun d e => by rw [e]; exact hcn) (dva (EV.mono (e_thing (n := 3) (j := M.length) ((hThing 3).mono (by decide)) hr rfl (pv 2) rfl hw e_int) fun d e => (e.nice (by decide)).mono (by decide)) dva_nil)) (by decide)) ?_ fun c z => z.elim
  rintro _ ⟨ts, rfl, ht2, hts⟩
  have hw2 : ∀ ts : List D, (M ++ [MO.well] ++ [MO.ml ts])[M.length]? = some .well := fun ts => by simp
  have ht : ∀ ts : List D, (M ++ [MO.well] ++ [MO.ml ts])[(M ++ [MO.well]).length]? = some (.ml ts) := fun ts => by simp
  have hset : ∀ ts ts' : List D, (M ++ [MO.well] ++ [MO.ml ts]).set (M ++ [MO.well]).length (.ml ts') = M ++ [MO.well] ++ [MO.ml ts'] := fun ts ts' => by simp
  refine ss_for (PX := N0) (Pd := (· = upFrom 0 3)) (asg := as1 5) (passes_of rfl) rfl (i_upto (C := (· = 3)) rfl B.range (i_int rfl) fun i e => by subst e; exact ⟨by decide, by decide, rfl⟩) (pg_name (i := 5) nd rfl (.inl rfl)) tg1 ?_ fun c z => z.elim
  rintro _ rfl
  refine Loop.ind (fun n2 env M' => ∃ ts s5, env = [.dat (.lst (is.map .int)), .dat (.int ((0 : Int) + (n : Nat))), .ptr M.length, .dat (.tup cs), .ptr (M ++ [MO.well]).length, s5, s6, s7, s8, s9] ∧ M' = M ++ [MO.well] ++ [MO.ml ts] ∧ ts.length ≤ 2 + n2 ∧ ∀ x ∈ ts, Nice 50 x) ⟨ts, _, rfl, rfl, by omega, hts⟩ ?_ ?_
  case refine_2 =>
    rintro n2 d hd _ _ ⟨ts, s5, rfl, rfl, htl, hts⟩
    have hn2 : n2 < 3 := by have := (List.getElem?_eq_some_iff.mp hd).1; rwa [upFrom_len] at this
    refine ⟨_, rfl, ?_⟩
    refine ss_meth (i := 4) (k := (M ++ [MO.well]).length) (ds := ts) (ds' := []) (PX := N0) (Pa := fun l => ∃ c, l = [c] ∧ Nice 50 c) PySem.F.slot_list_append PySem.F.type_list_append mt_append (pv 4) rfl (ht ts) (DV.mono (d_cons (e_other (n := 3) (j := M.length) (b0 := 60) (m := 8) (xs := cs) ((hOther 3).mono (by decide)) hr rfl (pv 2) rfl (hw2 ts) (e_slot (pv 3) rfl) e_int (hcs.mono (Nat.le_refl _) (by decide)) (by decide) (by decide) (by decide) (by decide)) d_nil) fun l ⟨d1, r1, e1, e2, e3⟩ => ⟨d1, by rw [e1, e3], (e2.nice (by decide)).mono (by decide)⟩) ?_ fun c z => z.elim
    rintro _ ⟨c, rfl, hc⟩
    refine ⟨_, lm_append (by omega), ss_nil ⟨ts ++ [c], _, rfl, hset ts _, by rw [List.length_append]; show ts.length + 1 ≤ 2 + (n2 + 1); omega, fun x hx => ?_⟩⟩
    rcases List.mem_append.mp hx with hx | hx
    · exact hts x hx
    · rw [List.mem_singleton.mp hx]; exact hc
  rintro _ _ ⟨ts, s5, rfl, rfl, htl, hts⟩
  have sayT : ∀ b : Bool, (!eqD (.bl b) (.bl b)) = false := fun b => by cases b <;> rfl
  -- each thing
  refine ss_forP (i := 4) (k := (M ++ [MO.well]).length) (ds := ts) (asg := as1 6) (passes_of rfl) rfl (pv 4) rfl (pg_name (i := 6) nd rfl (.inl rfl)) tg1 ?_
  refine LoopP.ind (fun i env M' => ∃ s6, env = [.dat (.lst (is.map .int)), .dat (.int ((0 : Int) + (n : Nat))), .ptr M.length, .dat (.tup cs), .ptr (M ++ [MO.well]).length, s5, s6, s7, s8, s9] ∧ M' = M ++ [MO.well] ++ [MO.ml ts]) (fun i _ _ ⟨_, _, e⟩ => by rw [e]; exact ht ts) ⟨_, rfl, rfl⟩ ?_ ?_
  case refine_2 =>
    rintro i d hd _ _ ⟨s6, rfl, rfl⟩
    have hdn := hts d (List.mem_of_getElem? hd)
    refine ⟨_, rfl, ?_⟩
    refine ss_ifret (P1 := (· = false)) (PX := N0) (BV.to (t_not (t_val (q_callB2 (hSays.mono (by decide)) hr rfl (q_callB1 (hAC.mono (by decide)) hr rfl (e_slot (pv 6) rfl) hdn) (q_callB1 (hLAC.mono (by decide)) hr rfl (e_slot (pv 6) rfl) hdn) ⟨rfl, rfl⟩))) (sayT _)) (fun hb => by cases hb) (fun _ => ss_nil ⟨_, rfl, rfl⟩) fun c z => z.elim
  rintro _ _ ⟨s6, rfl, rfl⟩
  refine ss_if1 (P1 := (· = areColumns (.tup cs))) (PX := N0) (t_val (EV.toB (q_callB1 (hLAC.mono (by decide)) hr rfl (e_slot (pv 3) rfl) hcn) rfl)) (fun hb => ?_) (fun _ => ss_nil ⟨_, _, _, _, _, _, _, _, _, rfl⟩) fun c z => z.elim
  obtain ⟨cl, rfl, hf, hap, hsome⟩ := columns_fit hb.symm
  have hnb := (hcs.mono (Nat.le_refl _) (show 4 ≤ 5 by decide))
  obtain ⟨hrows, hrow⟩ := rows_data hf hnb (by decide)
  have hrowsN : Nice 5 (.lst ((allRows cl).map rowD)) := hrows.nice (by decide)
  have hrl : 1 ≤ (allRows cl).length := by have := rows_some hsome cl.length (Nat.le_refl _); rwa [List.take_length] at this
  have hrl2 : (allRows cl).length ≤ 512 := by
    have := (hf.rows cl.length (Nat.le_refl _)).1
    rw [List.take_length] at this
    exact Nat.le_trans this (pow8 hf.few)
  -- rows
  refine ss_setN (i := 7) (P1 := (· = .ml ((allRows cl).map rowD))) (PX := N0) nd rfl (.inl rfl) (n_call0 (hRows.mono (by decide)) hr rfl (DV.n1 (e_slot (pv 3) rfl)) fun sl ⟨ds, e, e2⟩ => ⟨ds, _, e, ⟨cl, e2, hf, rfl⟩, fun d q => q⟩) ?_ fun c z => z.elim
  rintro _ rfl
  refine ss_setN (i := 8) (P1 := (· = .ml ((allRows cl).map rowD))) (PX := N0) nd rfl (.inl rfl) (n_call0 (hAll.mono (by decide)) hr rfl (DV.n1 (e_slot (pv 3) rfl)) fun sl ⟨ds, e, e2⟩ => ⟨ds, _, e, ⟨cl, e2, hf, rfl⟩, fun d q => q⟩) ?_ fun c z => z.elim
  rintro _ rfl
  generalize hM1 : M ++ [MO.well] ++ [MO.ml ts] = M1
  have hw3 : M1[M.length]? = some .well := by rw [← hM1]; exact hw2 ts
  have k7 : (M1 ++ [MO.ml ((allRows cl).map rowD)] ++ [MO.ml ((allRows cl).map rowD)])[M1.length]? = some (.ml ((allRows cl).map rowD)) := by simp
  have k8 : (M1 ++ [MO.ml ((allRows cl).map rowD)] ++ [MO.ml ((allRows cl).map rowD)])[(M1 ++ [MO.ml ((allRows cl).map rowD)]).length]? = some (.ml ((allRows cl).map rowD)) := by simp
  have same : PyData.eqv (D.lst ((allRows cl).map rowD)).py (D.lst ((allRows cl).map rowD)).py = true := eqv_same hrowsN
  have hsh : Sh (.lst ((allRows cl).map rowD)) := hrowsN.sh (by decide)
  refine ss_ifret (P1 := (· = false)) (PX := N0) (BV.to (t_w (t_or (t_not (t_val (q_ownLst rfl B.isinstance rfl B.list (x_ptr (pv 8) rfl) k8))) fun _ => t_or1 (tx_cmp (op_neD hr.units) (x_ptr (pv 8) rfl) (x_ptr (pv 7) rfl) (cont_of k8) (cont_of k7) (nomark _) (bin_ne hsh hsh rfl)))) (by rw [same]; rfl)) (fun hb => by cases hb) (fun _ => ?_) fun c z => z.elim
  refine ss_clear (i := 8) (k := (M1 ++ [MO.ml ((allRows cl).map rowD)]).length) (pv 8) rfl k8 ?_
  have hset2 : (M1 ++ [MO.ml ((allRows cl).map rowD)] ++ [MO.ml ((allRows cl).map rowD)]).set (M1 ++ [MO.ml ((allRows cl).map rowD)]).length (.ml []) = M1 ++ [MO.ml ((allRows cl).map rowD)] ++ [MO.ml []] := by simp
  rw [hset2]
  generalize hM2 : M1 ++ [MO.ml ((allRows cl).map rowD)] ++ [MO.ml []] = M2
  have hw4 : M2[M.length]? = some .well := by
    have hlt : M.length < M1.length := (List.getElem?_eq_some_iff.mp hw3).1
    rw [← hM2, List.append_assoc, List.getElem?_append_left hlt]; exact hw3
  have k7' : M2[M1.length]? = some (.ml ((allRows cl).map rowD)) := by rw [← hM2]; simp
  -- a row
  refine ss_set (i := 9) (P1 := fun d => ∃ r ∈ allRows cl, d = .tup r) (PX := N0) nd rfl (.inl rfl) (e_pickP (i := 7) (k := M1.length) (ds := (allRows cl).map rowD) (pv 7) rfl k7' (i_take (B := ((allRows cl).length : Int)) (j := M.length) (hTake.mono (by decide)) hr rfl (pv 2) rfl hw4 (IE.of (qx_len (d := .lst ((allRows cl).map rowD)) rfl B.len (x_ptr (pv 7) rfl) (cont_of k7') rfl) ⟨?_, ?_⟩) (by omega)) ?_ ?_) ?_ fun c z => z.elim
  · show 0 < (((allRows cl).map rowD).length : Int); rw [List.length_map]; omega
  · show (((allRows cl).map rowD).length : Int) ≤ _; rw [List.length_map]; exact Int.le_refl _
  · intro i hi; rw [List.length_map]; exact hi
  · intro x hx
    obtain ⟨r, hr, rfl⟩ := List.mem_map.mp hx
    exact ⟨r, hr, rfl⟩
  rintro _ ⟨r, hr0, rfl⟩
  have hrn := (hrow r hr0)
  have hrN : Nice 50 (.tup r) := (hrn.nice (by decide)).mono (by decide)
  have hrn5 : NB 60 6 (.tup r) := hrn.mono (by decide) (by decide)
  have good : ∀ {m : Nat} {d : D}, NB 68 m d → m ≤ 50 → Nice 50 d := fun h hm => (h.nice (by decide)).mono hm
  refine ss_for (PX := N0) (Pd := fun ds => ∀ x ∈ ds, Nice 50 x) (asg := as1 6) (passes_of rfl) rfl (i_list (EV.mono (e_lstA (n := 4) (Pe := Nice 50) (dva (EV.mono (e_slot (pv 9) rfl) fun d e => by rw [e]; exact hrN) (dva (EV.mono (e_other (n := 0) (j := M.length) (b0 := 60) (m := 6) (xs := r) ((hOther 0).mono (by decide)) hr rfl (pv 2) rfl hw4 (e_slot (pv 9) rfl) e_int hrn5 (by decide) (by decide) (by decide) (by decide)) fun d e => good e (by decide))
    (dva (EV.mono (e_other (n := 0) (j := M.length) (b0 := 60) (m := 6) (xs := r) ((hOther 0).mono (by decide)) hr rfl (pv 2) rfl hw4 (e_slot (pv 9) rfl) e_int hrn5 (by decide) (by decide) (by decide) (by decide)) fun d e => good e (by decide)) (dva (EV.mono (e_thing (n := 1) (j := M.length) ((hThing 1).mono (by decide)) hr rfl (pv 2) rfl hw4 e_int) fun d e => (e.nice (by decide)).mono (by decide)) dva_nil)))) (by decide)) fun d ⟨l, e, _, h⟩ => ⟨l, e, h⟩)) (pg_name (i := 6) nd rfl (.inl rfl)) tg1 ?_ fun c z => z.elim
  intro ds4 hds4
  refine Loop.ind (fun i env M' => ∃ s6, env = [.dat (.lst (is.map .int)), .dat (.int ((0 : Int) + (n : Nat))), .ptr M.length, .dat (.tup (cl.map colD)), .ptr (M ++ [MO.well]).length, s5, s6, .ptr M1.length, .ptr (M1 ++ [MO.ml ((allRows cl).map rowD)]).length, .dat (.tup r)] ∧ M' = M2) ⟨_, rfl, rfl⟩ ?_ ?_
  case refine_2 =>
    rintro i d hd _ _ ⟨s6, rfl, rfl⟩
    have hdn := hds4 d (List.mem_of_getElem? hd)
    refine ⟨_, rfl, ?_⟩
    refine ss_ifret (P1 := (· = false)) (PX := N0) (BV.to (t_not (t_val (q_callB2 (da := .bl (isRow cl d)) (db := .bl (isRow cl d)) (hSays.mono (by decide)) hr rfl (e_call0 (P := (· = .bl (isRow cl d))) (hIsRow.mono (by decide)) hr rfl (DV.n2 (e_slot (pv 3) rfl) (e_slot (pv 6) rfl)) fun sl ⟨ds, e, e2⟩ => ⟨ds, _, e, ⟨cl, d, e2, hf, hdn, rfl, rfl⟩, fun d q => q⟩) (e_call0 (P := (· = .bl (isRow cl d))) (hLIsRow.mono (by decide)) hr rfl (DV.n2 (e_slot (pv 3) rfl) (e_slot (pv 6) rfl)) fun sl ⟨ds, e, e2⟩ => ⟨ds, _, e, ⟨cl, d, e2, hf, hap, hdn, rfl, rfl⟩, fun d q => q⟩) ⟨rfl, rfl⟩))) (sayT _)) (fun hb => by cases hb) (fun _ => ss_nil ⟨_, rfl, rfl⟩) fun c z => z.elim
  rintro _ _ ⟨s6, rfl, rfl⟩
  refine ss_ifret (P1 := (· = false)) (PX := N0) (BV.to (tx_cmp (op_neD hr.units) (x_dat (NV.frzL (n_call0 (P := (· = .ml ((allRows cl).map rowD))) (hAll.mono (by decide)) hr rfl (DV.n1 (e_slot (pv 3) rfl)) fun sl ⟨ds, e, e2⟩ => ⟨ds, _, e, ⟨cl, e2, hf, rfl⟩, fun d q => q⟩))) (x_ptr (pv 7) rfl) rfl (cont_of k7') (nomark _) (bin_ne hsh hsh rfl)) (by rw [same]; rfl)) (fun hb => by cases hb) (fun _ => ss_nil ⟨_, _, _, _, _, _, _, _, _, rfl⟩) fun c z => z.elim
end
end K

set_option Elab.async false
set_option linter.all false
set_option maxRecDepth 100000
set_option maxHeartbeats 0
namespace K
open PySem PySem.Spec PyProof.Rows L2 Evl DL
def d_is_word : He.DefD := ⟨("is_word", none), "is_word", "is_word", defArgs s_is_word, defBody s_is_word, defScope s_is_word, [], []⟩
def d_is_whole : He.DefD := ⟨("is_whole", none), "is_whole", "is_whole", defArgs s_is_whole, defBody s_is_whole, defScope s_is_whole, [], []⟩
def d_rise : He.DefD := ⟨("rise", none), "rise", "rise", defArgs s_rise, defBody s_rise, defScope s_rise, [], []⟩
def d_are_values : He.DefD := ⟨("are_values", none), "are_values", "are_values", defArgs s_are_values, defBody s_are_values, defScope s_are_values, [], []⟩
def d_is_column : He.DefD := ⟨("is_column", none), "is_column", "is_column", defArgs s_is_column, defBody s_is_column, defScope s_is_column, [], []⟩
def d_are_columns : He.DefD := ⟨("are_columns", none), "are_columns", "are_columns", defArgs s_are_columns, defBody s_are_columns, defScope s_are_columns, [], []⟩
def d_spot_of : He.DefD := ⟨("spot_of", none), "spot_of", "spot_of", defArgs s_spot_of, defBody s_spot_of, defScope s_spot_of, [], []⟩
def d_values_of : He.DefD := ⟨("values_of", none), "values_of", "values_of", defArgs s_values_of, defBody s_values_of, defScope s_values_of, [], []⟩
def d_is_value : He.DefD := ⟨("is_value", none), "is_value", "is_value", defArgs s_is_value, defBody s_is_value, defScope s_is_value, [], []⟩
def d_all_rows : He.DefD := ⟨("all_rows", none), "all_rows", "all_rows", defArgs s_all_rows, defBody s_all_rows, defScope s_all_rows, [], []⟩
def d_is_row : He.DefD := ⟨("is_row", none), "is_row", "is_row", defArgs s_is_row, defBody s_is_row, defScope s_is_row, [], []⟩
def d__law_well : He.DefD := ⟨("_law_well", none), "_law_well", "_law_well", defArgs s__law_well, defBody s__law_well, defScope s__law_well, [], []⟩
def d__law_take : He.DefD := ⟨("_law_take", none), "_law_take", "_law_take", defArgs s__law_take, defBody s__law_take, defScope s__law_take, [], []⟩
def d__law_word : He.DefD := ⟨("_law_word", none), "_law_word", "_law_word", defArgs s__law_word, defBody s__law_word, defScope s__law_word, [], []⟩
def d__law_columns : He.DefD := ⟨("_law_columns", none), "_law_columns", "_law_columns", defArgs s__law_columns, defBody s__law_columns, defScope s__law_columns, [], []⟩
def d__law_rows : He.DefD := ⟨("_law_rows", none), "_law_rows", "_law_rows", defArgs s__law_rows, defBody s__law_rows, defScope s__law_rows, [], []⟩
def d__law_thing : He.DefD := ⟨("_law_thing", none), "_law_thing", "_law_thing", defArgs s__law_thing, defBody s__law_thing, defScope s__law_thing, [], []⟩
def d__law_otherwise : He.DefD := ⟨("_law_otherwise", none), "_law_otherwise", "_law_otherwise", defArgs s__law_otherwise, defBody s__law_otherwise, defScope s__law_otherwise, [], []⟩
def d__law_is_word : He.DefD := ⟨("_law_is_word", none), "_law_is_word", "_law_is_word", defArgs s__law_is_word, defBody s__law_is_word, defScope s__law_is_word, [], []⟩
def d__law_is_number : He.DefD := ⟨("_law_is_number", none), "_law_is_number", "_law_is_number", defArgs s__law_is_number, defBody s__law_is_number, defScope s__law_is_number, [], []⟩
def d__law_rising : He.DefD := ⟨("_law_rising", none), "_law_rising", "_law_rising", defArgs s__law_rising, defBody s__law_rising, defScope s__law_rising, [], []⟩
def d__law_are_values : He.DefD := ⟨("_law_are_values", none), "_law_are_values", "_law_are_values", defArgs s__law_are_values, defBody s__law_are_values, defScope s__law_are_values, [], []⟩
def d__law_are_columns : He.DefD := ⟨("_law_are_columns", none), "_law_are_columns", "_law_are_columns", defArgs s__law_are_columns, defBody s__law_are_columns, defScope s__law_are_columns, [], []⟩
def d__law_says : He.DefD := ⟨("_law_says", none), "_law_says", "_law_says", defArgs s__law_says, defBody s__law_says, defScope s__law_says, [], []⟩
def d__law_is_row : He.DefD := ⟨("_law_is_row", none), "_law_is_row", "_law_is_row", defArgs s__law_is_row, defBody s__law_is_row, defScope s__law_is_row, [], []⟩
def d_law : He.DefD := ⟨("law", none), "law", "law", defArgs s_law, defBody s_law, defScope s_law, [], []⟩
def fn : List He.DefD := [d_is_word, d_is_whole, d_rise, d_are_values, d_is_column, d_are_columns, d_spot_of, d_values_of, d_is_value, d_all_rows, d_is_row, d__law_well, d__law_take, d__law_word, d__law_columns, d__law_rows, d__law_thing, d__law_otherwise, d__law_is_word, d__law_is_number, d__law_rising, d__law_are_values, d__law_are_columns, d__law_says, d__law_is_row, d_law]
def fa : List He.Fa := [.glo "is_word", .glo "is_whole", .glo "rise", .glo "are_values", .glo "is_column", .glo "are_columns", .glo "spot_of", .glo "values_of", .glo "is_value", .glo "all_rows", .glo "is_row", .glo "_law_well", .glo "_law_take", .glo "_law_word", .glo "_law_columns", .glo "_law_rows", .glo "_law_thing", .glo "_law_otherwise", .glo "_law_is_word", .glo "_law_is_number", .glo "_law_rising", .glo "_law_are_values", .glo "_law_are_columns", .glo "_law_says", .glo "_law_is_row", .glo "law", .free "isinstance", .free "len", .free "all", .free "any", .free "str", .free "int", .free "bool", .free "tuple", .free "list", .free "range", .free "zip", .free "enumerate", .free "set", .free "sorted", .free "max", .free "min", .free "sum", .int "MOST_NAME" 8, .int "MOST_NUMBER" 99, .int "MOST_VALUES" 8, .int "MOST_COLUMNS" 3, .str "SMALL" small]
abbrev R : PySem.W.OpenRow := PySem.W.OpenLaw.row PySem.Challenge.rw_rowmint_k01_columns_and_rows
abbrev hk : PySem.W.Hook := He.hookD 4 fa fn
def ob (s : PySem.W.SharedT) : He.AlD := He.obsDG 4 fa fn (HandSHeadRun.getT s)
theorem ob_eq (s : PySem.W.SharedT) : ob s = hk.obs s.abs := He.obsDG_eq (HandSHeadRun.getT_eq s)
def lo0 : List Str := ["MintError", "NoColumn", "SMALL", "MOST_NAME", "MOST_NUMBER", "MOST_VALUES", "MOST_COLUMNS", "is_word", "is_whole", "rise", "are_values", "is_column", "are_columns", "spot_of", "values_of", "is_value", "all_rows", "is_row", "_law_well", "_law_take", "_law_word", "_law_columns", "_law_rows", "_law_thing", "_law_otherwise", "_law_is_word", "_law_is_number", "_law_rising", "_law_are_values", "_law_are_columns", "_law_says", "_law_is_row"]
abbrev lo : List Str := lo0
theorem run (w : World) : HandSHeadRun.RunEq R (PySem.W.view R.prog [35]) hk ob 4000 lo w := by
  intro os
  kernel_rfl
theorem facts {P : Program} {w : World} {K : PySem.W.Frag} {h : Heap} {mg : Str → Option Value} {f : Addr} (X : K.In h) (G : h.Ns mainGlobals mg) (hfa : mg ("law" : Str) = some (.ref f)) (c : He.SaysD fa fn K) :
    ∃ fd : FuncData, (∀ (s : Shared) (v : Value), BindsTo s fd ⟨[v], []⟩ [("_law_script", v)]) ∧ ∀ base : Heap, K.In base → base.Ns mainGlobals mg → FnOk P w K mg base CX0 10 f fd ["_law_script"] (spF K RLaw) := by
  obtain ⟨fd, F⟩ := c.def_ 25 (d := d_law) rfl
  have e := hfa.symm.trans (He.glo_ok X G (c.fact 25 (f := .glo "law") rfl))
  cases e
  have b := FunD.bindsA (ps := ["_law_script"]) F fun _ _ _ _ _ _ us hl => match us, hl with | [_], _ => rfl
  have df : ∀ (i : Nat) (d : He.DefD), fn[i]? = some d → fa[i]? = some (.glo d.name) → d.qual = d.name → d.at_ = (d.name, none) → d.dfl = [] → d.kwd = [] → ∃ f fd, mg d.name = some (.ref f) ∧ FunD K d.name d.name d.params d.body d.scope [] [] f fd := by
    intro i d h1 h2 h3 h4 h5 h6
    obtain ⟨fd, F⟩ := c.def_ i h1
    have hk : d.kws K = [] := by unfold He.DefD.kws; rw [h6]; rfl
    have hd : d.dvs K = [] := by unfold He.DefD.dvs; rw [h5]; rfl
    have ha : He.fAd K d.at_ = He.ga K d.name := by rw [h4]; rfl
    rw [h3, hk, hd, ha] at F
    exact ⟨_, fd, He.glo_ok X G (c.fact i h2), F⟩
  have B : Bl mg := ⟨He.free_ok X G (c.fact 26 rfl), He.free_ok X G (c.fact 27 rfl), He.free_ok X G (c.fact 28 rfl), He.free_ok X G (c.fact 29 rfl), He.free_ok X G (c.fact 30 rfl), He.free_ok X G (c.fact 31 rfl), He.free_ok X G (c.fact 32 rfl), He.free_ok X G (c.fact 33 rfl), He.free_ok X G (c.fact 34 rfl), He.free_ok X G (c.fact 35 rfl), He.free_ok X G (c.fact 36 rfl), He.free_ok X G (c.fact 37 rfl), He.free_ok X G (c.fact 38 rfl), He.free_ok X G (c.fact 39 rfl), He.free_ok X G (c.fact 40 rfl), He.free_ok X G (c.fact 41 rfl), He.free_ok X G (c.fact 42 rfl)⟩
  have C : Cols K mg := ⟨He.str_ok X G (c.fact 47 rfl), He.int_ok X G (c.fact 43 rfl), He.int_ok X G (c.fact 44 rfl), He.int_ok X G (c.fact 45 rfl), He.int_ok X G (c.fact 46 rfl)⟩
  refine ⟨fd, fun s v => b s [v] rfl, fun base _ _ => ?_⟩
  have w1 := is_word (P := P) (w := w) (base := base) (df 0 d_is_word rfl rfl rfl rfl rfl rfl) B C
  have w2 := is_whole (P := P) (w := w) (base := base) (df 1 d_is_whole rfl rfl rfl rfl rfl rfl) B
  have w3 := rise (P := P) (w := w) (base := base) (df 2 d_rise rfl rfl rfl rfl rfl rfl) B
  have w4 := are_values (df 3 d_are_values rfl rfl rfl rfl rfl rfl) B C w1 w2 w3
  have w5 := is_column (df 4 d_is_column rfl rfl rfl rfl rfl rfl) B C w1 w4
  have w6 := are_columns (df 5 d_are_columns rfl rfl rfl rfl rfl rfl) B C w5
  have w7 := spot_of (P := P) (w := w) (base := base) (df 6 d_spot_of rfl rfl rfl rfl rfl rfl) B
  have w8 := values_of (df 7 d_values_of rfl rfl rfl rfl rfl rfl) w7
  have w9 := is_value (df 8 d_is_value rfl rfl rfl rfl rfl rfl) B w8
  have w10 := all_rows (P := P) (w := w) (base := base) (df 9 d_all_rows rfl rfl rfl rfl rfl rfl)
  have w11 := is_row (df 10 d_is_row rfl rfl rfl rfl rfl rfl) B w9
  have v1 := law_well (P := P) (w := w) (base := base) (df 11 d__law_well rfl rfl rfl rfl rfl rfl) B
  have v2 := law_take (P := P) (w := w) (base := base) (df 12 d__law_take rfl rfl rfl rfl rfl rfl)
  have v3 := law_word (df 13 d__law_word rfl rfl rfl rfl rfl rfl) B v2
  have v4 := law_columns (df 14 d__law_columns rfl rfl rfl rfl rfl rfl) B v2 v3
  have v5 := law_rows (P := P) (w := w) (base := base) (df 15 d__law_rows rfl rfl rfl rfl rfl rfl)
  have v6 := law_thing (df 16 d__law_thing rfl rfl rfl rfl rfl rfl) B v2
  have v7 := law_otherwise (df 17 d__law_otherwise rfl rfl rfl rfl rfl rfl) B v2 v6
  have u1 := law_is_word (P := P) (w := w) (base := base) (df 18 d__law_is_word rfl rfl rfl rfl rfl rfl) B
  have u2 := law_is_number (P := P) (w := w) (base := base) (df 19 d__law_is_number rfl rfl rfl rfl rfl rfl) B
  have u3 := law_rising (P := P) (w := w) (base := base) (df 20 d__law_rising rfl rfl rfl rfl rfl rfl) B
  have u4 := law_are_values (df 21 d__law_are_values rfl rfl rfl rfl rfl rfl) B u1 u2 u3
  have u5 := law_are_columns (df 22 d__law_are_columns rfl rfl rfl rfl rfl rfl) B u1 u4
  have u6 := law_says (P := P) (w := w) (base := base) (df 23 d__law_says rfl rfl rfl rfl rfl rfl) B
  have u7 := law_is_row (P := P) (w := w) (base := base) (df 24 d__law_is_row rfl rfl rfl rfl rfl rfl) B
  exact law F B v2 v1 v4 v6 v7 u6 w6 u5 v5 w10 w11 u7
theorem ints_rep {K : PySem.W.Frag} {S : Hp} : ∀ ns : List Int, RepL K S (ns.map .int) (ns.map V.int)
  | [] => rfl
  | n :: r => RepL.cons rfl (ints_rep r)
end K
open PySem PySem.W PySem.Calls PyProof.Rows
theorem PySem.Challenge.cw_rowmint_k01_columns_and_rows_holds : PySem.Challenge.rw_rowmint_k01_columns_and_rows.Holds := by
  w_on; o_law
  refine HandSHeadRun.head_any (r := OpenLaw.row PySem.Challenge.rw_rowmint_k01_columns_and_rows) (q := view (OpenLaw.row PySem.Challenge.rw_rowmint_k01_columns_and_rows).prog [35]) (H := K.hk) (ob := K.ob) (M := 4000) (loose := K.lo) (d := HandSHeadRun.topDef (OpenLaw.row PySem.Challenge.rw_rowmint_k01_columns_and_rows).prog 35) (kwd := []) K.ob_eq
    (by kernel_rfl) (fun s => by kernel_rfl) K.run (by kernel_rfl) (by kernel_rfl) (by kernel_rfl) (by rfl) (by first | assumption | decide +kernel) (by decide +kernel) ⟨rfl, rfl, rfl, rfl, rfl, by decide +kernel⟩ ?hw ?hc
  case hw => w_witness2
  case hc =>
    refine L2.walk_ofE (l := PySem.Challenge.rw_rowmint_k01_columns_and_rows) (n := 63) (k := 10) (x := "_law_script") (CX := L2.CX0) rfl (by decide) (by kernel_rfl) ⟨rfl, by decide, by decide⟩ ?F (fun _ _ _ _ z => z)
    intro w mg fa h Y G hmg0
    obtain ⟨K', KX, c⟩ := Y
    have hmg : mg ("law" : PySem.Str) = some (.ref fa) := by
      have e : (HandSHeadRun.topDef (OpenLaw.row PySem.Challenge.rw_rowmint_k01_columns_and_rows).prog 35).name = ("law" : PySem.Str) := by kernel_rfl
      rw [← e]
      exact hmg0
    obtain ⟨fd, hb, hF⟩ := K.facts (P := (PySem.Challenge.rw_rowmint_k01_columns_and_rows).prog) (w := w) KX G hmg c
    exact ⟨K', fd, DL.spF K' DL.RLaw, KX, hb, fun H a ns hl _ hS => ⟨H, [.lst (ns.map .int)], (· = .bl true), DL.N0, fun _ _ h => h, ⟨_, [], rfl, ⟨a, ns.map L2.V.int, rfl, hS, K.ints_rep ns⟩, rfl⟩, ⟨ns, rfl, hl, rfl, rfl⟩, fun d v S2 H2 e _ _ r => by subst e; exact r, fun c _ _ z => z.elim⟩, hF⟩

