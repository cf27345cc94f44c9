import PyProof.Rows.All
import Wide.All
import OpenK.AllK
import Wide.FinOn
import PySem.Challenge.RW_rowmint_k04_what_is_broken
import HandS.ForMost
import HandS.Evl
import HandS.Walk
import HandS.Deep
import HandS.IsInst
import HandS.Zip
import HandS.Defaults
import HandS.TupAny
import HandS.ForExc
import HandS.ExcOwn
import HandS.ExcIs
import HandS.ExcCtx
import HandS.HotCalls
import HandS.HeadHook1
import PyProof.ExcBaseAll.ValueError
import KE.GoesEnum
import HandS.TupMul
import HandS.Text
import HandS.Wide
import HandS.ForDict
import HandS.Words
import HandS.WordsExc
import HandS.StrMore
import HandS.More
import HandS.Style
import PyProof.DictUpdate
import HandS.SortInts
import HandS.SetKeys
import PyProof.Rows.SetFrom
import HandS.DictTup
import HandS.Keys
import KE.KSortTupAny
import KE.GoesZip
import HandS.TupSets
import KE.KDictZip
import KE.KTurns
import HandS.GenList
import HandS.SetFor
import KE.KSortTupG
import HandS.HeadHook3
import HandS.HeadHook4
import HandS.HeadEnd
import HandS.Ends
import HandS.Head0
import HandS.Head1
import HandS.Head2
import HandS.HeadHook2
set_option Elab.async false
set_option linter.all false
set_option maxRecDepth 100000
set_option maxHeartbeats 4000000
namespace FL
open PySem L2 Evl

/-- data; ptr: an object that may change -/
inductive D where
  | non | bl (b : Bool) | int (i : Int) | str (x : Str) | tup (ds : List D) | lst (ds : List D) | ptr (a : Addr) | scr (ns : List Int)
instance : Inhabited D := ⟨.non⟩

mutual
def Rep (K : PySem.W.Frag) (S : Hp) : D → V → Prop
  | .non, v => v = .non
  | .bl b, v => v = .bl b
  | .int i, v => v = .int i
  | .str x, v => v = .str x ∧ PyData.strOk x = true
  | .tup ds, v => ∃ a xs, v = .ref a ∧ SqT K S a xs ∧ RepL K S ds xs
  | .lst ds, v => ∃ a xs, v = .ref a ∧ S a = some (.lst xs) ∧ RepL K S ds xs
  | .ptr a, v => v = .ref a
  | .scr ns, v => ∃ a, v = .ref a ∧ SqL K S a (ns.map V.int)
def RepL (K : PySem.W.Frag) (S : Hp) : List D → List V → Prop
  | [], xs => xs = []
  | d :: ds, xs => ∃ x r, xs = x :: r ∧ Rep K S d x ∧ RepL K S ds r
end

mutual
theorem Rep.mono {K : PySem.W.Frag} {S S2 : Hp} (e : Ex S S2) : ∀ {d : D} {v : V}, Rep K S d v → Rep K S2 d v
  | .non, _, h => h
  | .bl _, _, h => h
  | .int _, _, h => h
  | .str _, _, h => h
  | .ptr _, _, h => h
  | .scr _, _, ⟨a, e1, h1⟩ => ⟨a, e1, ex_l e h1⟩
  | .tup _, _, ⟨a, xs, e1, h1, h2⟩ => ⟨a, xs, e1, ex_t e h1, RepL.mono e h2⟩
  | .lst _, _, ⟨a, xs, e1, h1, h2⟩ => ⟨a, xs, e1, e a _ h1, RepL.mono e h2⟩
theorem RepL.mono {K : PySem.W.Frag} {S S2 : Hp} (e : Ex S S2) : ∀ {ds : List D} {xs : List V}, RepL K S ds xs → RepL K S2 ds xs
  | [], _, h => h
  | _ :: _, _, ⟨x, r, e1, h1, h2⟩ => ⟨x, r, e1, Rep.mono e h1, RepL.mono e h2⟩
end
section
variable {K : PySem.W.Frag} {S : Hp}
theorem RepL.length : ∀ {ds : List D} {xs : List V}, RepL K S ds xs → xs.length = ds.length
  | [], _, h => by rw [show _ = [] from h]; rfl
  | _ :: ds, _, ⟨x, r, e1, _, h2⟩ => by rw [e1, List.length_cons, List.length_cons, RepL.length h2]
theorem RepL.get : ∀ {ds : List D} {xs : List V} {i : Nat} {d : D}, RepL K S ds xs → ds[i]? = some d → ∃ x, xs[i]? = some x ∧ Rep K S d x
  | [], _, _, _, _, h => by simp at h
  | _ :: _, _, 0, _, ⟨x, r, e1, h1, _⟩, h => ⟨x, by rw [e1]; rfl, by cases (Option.some.inj h); exact h1⟩
  | _ :: ds, _, i + 1, d, ⟨x, r, e1, _, h2⟩, h => by
    obtain ⟨y, hy, hr⟩ := RepL.get (i := i) (d := d) h2 (by simpa using h)
    exact ⟨y, by rw [e1]; simpa using hy, hr⟩
theorem RepL.get' : ∀ {ds : List D} {xs : List V} {i : Nat} {x : V}, RepL K S ds xs → xs[i]? = some x → ∃ d, ds[i]? = some d ∧ Rep K S d x
  | [], _, _, _, h, e => by rw [show _ = [] from h] at e; simp at e
  | d :: _, _, 0, _, ⟨x, r, e1, h1, _⟩, h => ⟨d, rfl, by rw [e1] at h; cases (Option.some.inj h); exact h1⟩
  | _ :: ds, _, i + 1, x, ⟨_, r, e1, _, h2⟩, h => by
    rw [e1] at h
    obtain ⟨y, hy, hr⟩ := RepL.get' (i := i) (x := x) h2 (by simpa using h)
    exact ⟨y, by simpa using hy, hr⟩
theorem RepL.append : ∀ {ds es : List D} {xs ys : List V}, RepL K S ds xs → RepL K S es ys → RepL K S (ds ++ es) (xs ++ ys)
  | [], _, _, _, h, g => by rw [show _ = [] from h]; exact g
  | _ :: _, _, _, _, ⟨x, r, e1, h1, h2⟩, g => ⟨x, r ++ _, by rw [e1]; rfl, h1, RepL.append h2 g⟩
theorem RepL.one {d : D} {x : V} (h : Rep K S d x) : RepL K S [d] [x] := ⟨x, [], rfl, h, rfl⟩
theorem RepL.cons {d : D} {x : V} {ds : List D} {xs : List V} (h : Rep K S d x) (t : RepL K S ds xs) : RepL K S (d :: ds) (x :: xs) := ⟨x, xs, rfl, h, t⟩
theorem RepL.nil : RepL K S [] [] := rfl
theorem RepL.set {d : D} {x : V} (h : Rep K S d x) : ∀ {ds : List D} {xs : List V} (i : Nat), RepL K S ds xs → RepL K S (ds.set i d) (xs.set i x)
  | [], _, _, g => by rw [show _ = [] from g]; exact RepL.nil
  | _ :: _, _, 0, ⟨_, r, e1, _, h2⟩ => by rw [e1]; exact RepL.cons h h2
  | _ :: _, _, i + 1, ⟨y, r, e1, h1, h2⟩ => by rw [e1]; exact RepL.cons h1 (RepL.set h i h2)
theorem RepL.take : ∀ {ds : List D} {xs : List V} (n : Nat), RepL K S ds xs → RepL K S (ds.take n) (xs.take n)
  | _, _, 0, _ => by simp [RepL]
  | [], _, _ + 1, g => by rw [show _ = [] from g]; exact RepL.nil
  | _ :: _, _, n + 1, ⟨y, r, e1, h1, h2⟩ => by rw [e1]; exact RepL.cons h1 (RepL.take n h2)
theorem RepL.drop : ∀ {ds : List D} {xs : List V} (n : Nat), RepL K S ds xs → RepL K S (ds.drop n) (xs.drop n)
  | _, _, 0, g => by simpa using g
  | [], _, _ + 1, g => by rw [show _ = [] from g]; exact RepL.nil
  | _ :: _, _, n + 1, ⟨y, r, e1, h1, h2⟩ => by rw [e1]; simpa using RepL.drop n h2
theorem RepL.reverse : ∀ {ds : List D} {xs : List V}, RepL K S ds xs → RepL K S ds.reverse xs.reverse
  | [], _, g => by rw [show _ = [] from g]; exact RepL.nil
  | _ :: _, _, ⟨y, r, e1, h1, h2⟩ => by
    rw [e1, List.reverse_cons, List.reverse_cons]
    exact (RepL.reverse h2).append (RepL.one h1)
end

/-! ### as the library's data -/
mutual
def D.py : D → PyData
  | .non => .none
  | .bl b => .bool b
  | .int i => .int i
  | .str x => .str x
  | .tup ds => .tuple (D.pys ds)
  | .lst ds => .list (D.pys ds)
  | .ptr _ => .none
  | .scr _ => .none
def D.pys : List D → List PyData
  | [] => []
  | d :: ds => d.py :: D.pys ds
end
mutual
/-- without objects that may change -/
def pure : D → Bool
  | .ptr _ => false
  | .scr _ => false
  | .tup ds => pures ds
  | .lst ds => pures ds
  | _ => true
def pures : List D → Bool
  | [] => true
  | d :: ds => pure d && pures ds
end
mutual
theorem Rep.dp {K : PySem.W.Frag} {S : Hp} : ∀ {d : D} {v : V}, pure d = true → Rep K S d v → Dp K S v d.py
  | .non, _, _, h => by rw [show _ = V.non from h]; exact .non
  | .bl b, _, _, h => by rw [show _ = V.bl b from h]; exact .bl b
  | .int b, _, _, h => by rw [show _ = V.int b from h]; exact .int b
  | .str b, _, _, h => by rw [show _ = V.str b from h.1]; exact .str b
  | .tup _, _, p, ⟨a, xs, e1, h1, h2⟩ => by rw [e1]; exact .tup h1 (RepL.dp p h2)
  | .lst _, _, p, ⟨a, xs, e1, h1, h2⟩ => by rw [e1]; exact .lst (sq_of h1) (RepL.dp p h2)
  | .ptr _, _, p, _ => by cases p
  | .scr _, _, p, _ => by cases p
theorem RepL.dp {K : PySem.W.Frag} {S : Hp} : ∀ {ds : List D} {xs : List V}, pures ds = true → RepL K S ds xs → DpAll K S xs (D.pys ds)
  | [], _, _, h => by rw [show _ = [] from h]; exact .nil
  | d :: ds, _, p, ⟨x, r, e1, h1, h2⟩ => by
    have p' : (pure d && pures ds) = true := p
    rw [Bool.and_eq_true] at p'
    rw [e1]; exact .cons (Rep.dp p'.1 h1) (RepL.dp p'.2 h2)
end

mutual
theorem Rep.lay {K : PySem.W.Frag} {S : Hp} : ∀ {d : D} {v : V}, pure d = true → Rep K S d v → PyData.canLay0 d.py = true
  | .non, _, _, _ => by rw [D.py, PyData.canLay0]
  | .bl b, _, _, _ => by rw [D.py, PyData.canLay0]
  | .int b, _, _, _ => by rw [D.py, PyData.canLay0]
  | .str b, _, _, h => by rw [D.py, PyData.canLay0]; exact h.2
  | .tup _, _, p, ⟨a, xs, e1, h1, h2⟩ => by rw [D.py, PyData.canLay0]; exact RepL.lay p h2
  | .lst _, _, p, ⟨a, xs, e1, h1, h2⟩ => by rw [D.py, PyData.canLay0]; exact RepL.lay p h2
  | .ptr _, _, p, _ => by cases p
  | .scr _, _, p, _ => by cases p
theorem RepL.lay {K : PySem.W.Frag} {S : Hp} : ∀ {ds : List D} {xs : List V}, pures ds = true → RepL K S ds xs → PyData.canLayAll0 (D.pys ds) = true
  | [], _, _, _ => by rw [D.pys, PyData.canLayAll0]
  | d :: ds, _, p, ⟨x, r, e1, h1, h2⟩ => by
    have p' : (pure d && pures ds) = true := p
    rw [Bool.and_eq_true] at p'
    rw [D.pys, PyData.canLayAll0, Rep.lay p'.1 h1, RepL.lay p'.2 h2]; rfl
end
mutual
/-- how deep -/
def dep : D → Nat
  | .tup ds => deps ds + 1
  | .lst ds => deps ds + 1
  | _ => 0
def deps : List D → Nat
  | [] => 0
  | d :: ds => max (dep d) (deps ds)
end
mutual
theorem dep_py : ∀ {d : D}, pure d = true → PyData.depth d.py = dep d
  | .non, _ => by simp [D.py, PyData.depth, dep]
  | .bl b, _ => by simp [D.py, PyData.depth, dep]
  | .int b, _ => by simp [D.py, PyData.depth, dep]
  | .str b, _ => by simp [D.py, PyData.depth, dep]
  | .tup ds, p => by rw [D.py, PyData.depth, dep, deps_py p]
  | .lst ds, p => by rw [D.py, PyData.depth, dep, deps_py p]
  | .ptr _, p => by cases p
  | .scr _, p => by cases p
theorem deps_py : ∀ {ds : List D}, pures ds = true → PyData.depthAll (D.pys ds) = deps ds
  | [], _ => by rw [D.pys, PyData.depthAll, deps]
  | d :: ds, p => by
    have p' : (pure d && pures ds) = true := p
    rw [Bool.and_eq_true] at p'
    rw [D.pys, PyData.depthAll, deps, dep_py p'.1, deps_py p'.2]
end
/-! ### objects that may change -/
inductive MO where
  | ml (ds : List D) | well | md (kvs : List (Key × D)) | lk (kvs : List (Key × D)) | ins (C dx : Addr) (fs : List (Str × D)) | ex (c : Str)
def RepKV {α : Type} (K : PySem.W.Frag) (S : Hp) : List (α × D) → List (α × V) → Prop
  | [], vs => vs = []
  | p :: r, vs => ∃ x t, vs = (p.1, x) :: t ∧ Rep K S p.2 x ∧ RepKV K S r t
theorem RepKV.mono {α : Type} {K : PySem.W.Frag} {S S2 : Hp} (e : Ex S S2) : ∀ {ds : List (α × D)} {xs : List (α × V)}, RepKV K S ds xs → RepKV K S2 ds xs
  | [], _, h => h
  | _ :: _, _, ⟨x, r, e1, h1, h2⟩ => ⟨x, r, e1, h1.mono e, RepKV.mono e h2⟩
theorem RepKV.length {α : Type} {K : PySem.W.Frag} {S : Hp} : ∀ {ds : List (α × D)} {xs : List (α × V)}, RepKV K S ds xs → xs.length = ds.length
  | [], _, h => by rw [show _ = [] from h]; rfl
  | _ :: _, _, ⟨x, r, e1, _, h2⟩ => by rw [e1, List.length_cons, List.length_cons, RepKV.length h2]
def okK : Key → Prop
  | .inl _ => True
  | .inr x => PyData.strOk x = true
def HasO (K : PySem.W.Frag) (S H : Hp) (a : Addr) : MO → Prop
  | .ml ds => S a = none ∧ ∃ vs, H a = some (.lst vs) ∧ RepL K S ds vs
  | .well => S a = none ∧ ∃ x y c : Int, H a = some (.lst [.int x, .int y, .int c]) ∧ 0 ≤ y ∧ y < 4294967296 ∧ 0 < c ∧ c < 4294967296
  | .md kvs => S a = none ∧ ∃ vs, H a = some (.dK vs) ∧ RepKV K S kvs vs ∧ ∀ kv ∈ kvs, okK kv.1
  | .lk kvs => ∃ od vs, S a = some (.frz od (.dK vs)) ∧ H a = some (.frz od (.dK vs)) ∧ RepKV K S kvs vs ∧ ∀ kv ∈ kvs, okK kv.1
  | .ins C dx fs => S a = none ∧ ∃ vs, H a = some (.ins C dx vs) ∧ RepKV K S fs vs
  | .ex _ => H a ≠ none
abbrev Mem := Addr → Option MO
def put (M : Mem) (a : Addr) (m : MO) : Mem := fun b => if b = a then some m else M b
@[simp] theorem put_same {M : Mem} {a : Addr} {m : MO} : put M a m a = some m := if_pos rfl
@[simp] theorem put_ne {M : Mem} {a b : Addr} {m : MO} (h : b ≠ a) : put M a m b = M b := if_neg h
@[simp] theorem put_put {M : Mem} {a : Addr} {m m' : MO} : put (put M a m) a m' = put M a m' := by
  funext b; unfold put; split <;> rfl
theorem put_id {M : Mem} {a : Addr} {m : MO} (h : M a = some m) : put M a m = M := by
  funext b; unfold put; split
  · subst_vars; exact h.symm
  · rfl
/-- less is known -/
def Wk (m m' : MO) : Prop := m = m' ∨ (m = .well ∧ ∃ x y c : Int, m' = .ml [.int x, .int y, .int c] ∧ 0 ≤ y ∧ y < 4294967296 ∧ 0 < c ∧ c < 4294967296)
theorem Wk.trans {a b c : MO} (h : Wk a b) (g : Wk b c) : Wk a c := by
  rcases h with rfl | ⟨rfl, x, y, z, rfl, h⟩
  · exact g
  · rcases g with rfl | ⟨e, _⟩
    · exact .inr ⟨rfl, x, y, z, rfl, h⟩
    · cases e
def Le (M M' : Mem) : Prop := ∀ a m, M a = some m → ∃ m', M' a = some m' ∧ Wk m m'
theorem Le.refl {M : Mem} : Le M M := fun _ m h => ⟨m, h, .inl rfl⟩
theorem Le.trans {M M' M2 : Mem} (h : Le M M') (g : Le M' M2) : Le M M2 := fun a m q => by
  obtain ⟨m1, h1, w1⟩ := h a m q
  obtain ⟨m2, h2, w2⟩ := g a m1 h1
  exact ⟨m2, h2, w1.trans w2⟩
theorem Le.new {M : Mem} {a : Addr} {m : MO} (h : M a = none) : Le M (put M a m) := fun b u q => by
  have : b ≠ a := by rintro rfl; rw [h] at q; cases q
  rw [put_ne this]; exact ⟨u, q, .inl rfl⟩
theorem Le.put {M M' : Mem} {a : Addr} {m m' : MO} (h : Le M M') (w : Wk m m') : Le (put M a m) (put M' a m') := fun b u q => by
  by_cases hb : b = a
  · subst hb; rw [put_same] at q ⊢; cases q; exact ⟨m', rfl, w⟩
  · rw [put_ne hb] at q ⊢; exact h b u q
theorem Le.gone {M : Mem} {a : Addr} {m : MO} (h : M a = none) : Le M (FL.put M a m) := Le.new h
theorem ne_new {M : Mem} {a b : Addr} {m : MO} (h : M a = none) (g : M b = some m) : b ≠ a := by rintro rfl; rw [h] at g; cases g
structure Ok (K : PySem.W.Frag) (S : Hp) (M : Mem) (H : Hp) : Prop where
  ex : Ex S H
  own : ∀ a m, M a = some m → HasO K S H a m
section
variable {K : PySem.W.Frag} {S S2 H H2 : Hp} {M : Mem}
theorem HasO.wk {a : Addr} {m m' : MO} (w : Wk m m') (h : HasO K S H a m') : HasO K S H a m := by
  rcases w with rfl | ⟨rfl, x, y, c, rfl, hb⟩
  · exact h
  · obtain ⟨hS, vs, hv, u, t, rfl, h1, u2, t2, rfl, h2, u3, t3, rfl, h3, h4⟩ := h
    obtain rfl : t3 = [] := h4
    obtain rfl : u = .int x := h1
    obtain rfl : u2 = .int y := h2
    obtain rfl : u3 = .int c := h3
    exact ⟨hS, x, y, c, hv, hb⟩
theorem Ok.le (o : Ok K S M H) {M' : Mem} (h : Le M' M) : Ok K S M' H := ⟨o.ex, fun a m q => let ⟨m', h', w⟩ := h a m q; (o.own a m' h').wk w⟩
theorem Ok.well (o : Ok K S M H) {a : Addr} (h : M a = some .well) : ∃ x y c : Int, 0 ≤ y ∧ y < 4294967296 ∧ 0 < c ∧ c < 4294967296 ∧ Ok K S (FL.put M a (.ml [.int x, .int y, .int c])) H := by
  obtain ⟨hS, x, y, c, hv, h1, h2, h3, h4⟩ := o.own a _ h
  refine ⟨x, y, c, h1, h2, h3, h4, o.ex, fun b m q => ?_⟩
  by_cases hb : b = a
  · subst hb; rw [put_same] at q; cases q; exact ⟨hS, _, hv, _, _, rfl, rfl, _, _, rfl, rfl, _, _, rfl, rfl, rfl⟩
  · rw [put_ne hb] at q; exact o.own b m q
theorem HasO.there {a : Addr} {m : MO} (h : HasO K S H a m) : H a ≠ none := by
  cases m with
  | ml ds => obtain ⟨_, vs, h2, _⟩ := h; rw [h2]; exact fun z => nomatch z
  | well => obtain ⟨_, x, y, c, h2, _⟩ := h; rw [h2]; exact fun z => nomatch z
  | md ds => obtain ⟨_, vs, h2, _⟩ := h; rw [h2]; exact fun z => nomatch z
  | lk ds => obtain ⟨_, vs, _, h2, _⟩ := h; rw [h2]; exact fun z => nomatch z
  | ins C dx fs => obtain ⟨_, vs, h2, _⟩ := h; rw [h2]; exact fun z => nomatch z
  | ex c => exact h
theorem HasO.keep {a : Addr} {m : MO} (h : HasO K S H a m) (e : Ex S S2) (k : ∀ o, H a = some o → H2 a = some o) (n : S2 a ≠ none → S a = none → H a = none) : HasO K S2 H2 a m := by
  have free : ∀ o, S a = none → H a = some o → S2 a = none := fun o h1 h2 => by
    cases q : S2 a with
    | none => rfl
    | some u =>
      have := n (by rw [q]; exact fun z => nomatch z) h1
      rw [h2] at this; cases this
  cases m with
  | ml ds => obtain ⟨h1, vs, h2, h3⟩ := h; exact ⟨free _ h1 h2, vs, k _ h2, h3.mono e⟩
  | well => obtain ⟨h1, x, y, c, h2, h3⟩ := h; exact ⟨free _ h1 h2, x, y, c, k _ h2, h3⟩
  | md kvs => obtain ⟨h1, vs, h2, h3, h4⟩ := h; exact ⟨free _ h1 h2, vs, k _ h2, h3.mono e, h4⟩
  | lk kvs => obtain ⟨od, vs, h1, h2, h3, h4⟩ := h; exact ⟨od, vs, e _ _ h1, k _ h2, h3.mono e, h4⟩
  | ins C dx fs => obtain ⟨h1, vs, h2, h3⟩ := h; exact ⟨free _ h1 h2, vs, k _ h2, h3.mono e⟩
  | ex c =>
    cases q : H a with
    | none => exact absurd q h
    | some o => show H2 a ≠ none; rw [k o q]; exact fun z => nomatch z
/-- a heap that only grew -/
theorem Ok.grew (o : Ok K S M H) (e : Ex S S2) (e2 : Ex S2 H2) (k : Ex H H2) (n : ∀ a, S2 a ≠ none → S a = none → H a = none) : Ok K S2 M H2 :=
  ⟨e2, fun a m h => (o.own a m h).keep e (fun u q => k a u q) (n a)⟩
theorem ex_upd2 {p : Addr} {o : HO} (e : Ex S H) (hp : H p = none) : Ex S (upd S p o) ∧ Ex (upd S p o) (upd H p o) ∧ Ex H (upd H p o) ∧ ∀ a, (upd S p o) a ≠ none → S a = none → H a = none := by
  have hs : S p = none := by
    cases q : S p with
    | none => rfl
    | some u => rw [e p u q] at hp; cases hp
  refine ⟨Ex.new hs, fun a u h => ?_, Ex.new hp, fun a h1 h2 => ?_⟩
  · by_cases ha : a = p
    · subst ha; rw [upd_same] at h ⊢; exact h
    · rw [upd_ne ha] at h ⊢; exact e a u h
  · by_cases ha : a = p
    · subst ha; exact hp
    · rw [upd_ne ha] at h1; exact absurd h2 h1
theorem exFree (e : Ex S H) {p : Addr} (hp : H p = none) : S p = none := by
  cases q : S p with
  | none => rfl
  | some u => rw [e p u q] at hp; cases hp
theorem Ok.fresh (o : Ok K S M H) {p : Addr} (hp : H p = none) : M p = none := by
  cases q : M p with
  | none => rfl
  | some m => exact absurd hp (o.own p m q).there
/-- a new object -/
theorem Ok.more (o : Ok K S M H) {p : Addr} {m : MO} {u : HO} (hp : H p = none) (hm : HasO K S (upd H p u) p m) : Ok K S (put M p m) (upd H p u) := by
  refine ⟨fun a v h => ?_, fun a m' h => ?_⟩
  · have : a ≠ p := by rintro rfl; rw [exFree o.ex hp] at h; cases h
    rw [upd_ne this]; exact o.ex a v h
  · by_cases ha : a = p
    · subst ha; rw [put_same] at h; cases h; exact hm
    · rw [put_ne ha] at h
      exact (o.own a m' h).keep (Ex.refl _) (fun v q => by rw [upd_ne ha]; exact q) fun z1 z2 => absurd z2 z1
/-- an object changed -/
theorem Ok.change (o : Ok K S M H) {p : Addr} {m : MO} {u : HO} (hS : S p = none) (hm : HasO K S (upd H p u) p m) : Ok K S (put M p m) (upd H p u) := by
  refine ⟨fun a v h => ?_, fun a m' h => ?_⟩
  · have : a ≠ p := by rintro rfl; rw [hS] at h; cases h
    rw [upd_ne this]; exact o.ex a v h
  · by_cases ha : a = p
    · subst ha; rw [put_same] at h; cases h; exact hm
    · rw [put_ne ha] at h
      exact (o.own a m' h).keep (Ex.refl _) (fun v q => by rw [upd_ne ha]; exact q) fun z1 z2 => absurd z2 z1
theorem Ok.newL (o : Ok K S M H) {p : Addr} {ds : List D} {xs : List V} (hp : H p = none) (r : RepL K S ds xs) : Ok K S (put M p (.ml ds)) (upd H p (.lst xs)) := o.more hp ⟨exFree o.ex hp, xs, upd_same, r⟩
theorem Ok.newD (o : Ok K S M H) {p : Addr} {ds : List (Key × D)} {xs : List (Key × V)} (hp : H p = none) (r : RepKV K S ds xs) (hk : ∀ kv ∈ ds, okK kv.1) : Ok K S (put M p (.md ds)) (upd H p (.dK xs)) := o.more hp ⟨exFree o.ex hp, xs, upd_same, r, hk⟩
/-- an owned list becomes data -/
theorem Ok.freeze (o : Ok K S M H) {a : Addr} {ds : List D} (h : M a = some (.ml ds)) : ∃ S2, Ex S S2 ∧ Ok K S2 (fun b => if b = a then none else M b) H ∧ Rep K S2 (.lst ds) (.ref a) := by
  obtain ⟨hS, vs, hv, r⟩ := o.own a _ h
  have e1 : Ex S (upd S a (.lst vs)) := Ex.new hS
  refine ⟨upd S a (.lst vs), e1, ⟨fun c u q => ?_, fun c m q => ?_⟩, a, vs, rfl, upd_same, r.mono e1⟩
  · by_cases hc : c = a
    · subst hc; rw [upd_same] at q; rw [hv]; exact q
    · rw [upd_ne hc] at q; exact o.ex c u q
  · by_cases hc : c = a
    · subst hc; simp at q
    · rw [if_neg hc] at q
      exact (o.own c m q).keep e1 (fun _ z => z) fun z1 z2 => by rw [upd_ne hc] at z1; exact absurd z2 z1
end

/-! ### slots -/
abbrev Sl := List (Option D)
def EnvR (K : PySem.W.Frag) (S : Hp) : Sl → L2.St → Prop
  | [], [] => True
  | s :: r, o :: q => (∀ d, s = some d → ∃ v, o = some v ∧ Rep K S d v) ∧ EnvR K S r q
  | _, _ => False
section
variable {K : PySem.W.Frag} {S S2 : Hp}
theorem EnvR.mono (e : Ex S S2) : ∀ {env : Sl} {σ : L2.St}, EnvR K S env σ → EnvR K S2 env σ
  | [], [], _ => trivial
  | [], _ :: _, h => h.elim
  | _ :: _, [], h => h.elim
  | _ :: _, _ :: _, ⟨h1, h2⟩ => ⟨fun d q => let ⟨v, a, b⟩ := h1 d q; ⟨v, a, b.mono e⟩, EnvR.mono e h2⟩
theorem EnvR.get : ∀ {env : Sl} {σ : L2.St} {i : Nat} {d : D}, EnvR K S env σ → env[i]? = some (some d) → ∃ v, σ[i]? = some (some v) ∧ Rep K S d v
  | [], [], _, _, _, h => by simp at h
  | [], _ :: _, _, _, h, _ => h.elim
  | _ :: _, [], _, _, h, _ => h.elim
  | _ :: _, _ :: _, 0, d, ⟨h1, h2⟩, h => by
    obtain ⟨v, a, b⟩ := h1 d (Option.some.inj h)
    exact ⟨v, by rw [a]; rfl, b⟩
  | _ :: _, _ :: _, i + 1, s, ⟨h1, h2⟩, h => by
    obtain ⟨o, ho, r⟩ := EnvR.get (i := i) (d := s) h2 (by simpa using h)
    exact ⟨o, by simpa using ho, r⟩
theorem EnvR.set {s : Option D} {o : Option V} (hs : ∀ d, s = some d → ∃ v, o = some v ∧ Rep K S d v) : ∀ {env : Sl} {σ : L2.St} (i : Nat), EnvR K S env σ → EnvR K S (env.set i s) (σ.set i o)
  | [], [], _, _ => trivial
  | [], _ :: _, _, h => h.elim
  | _ :: _, [], _, h => h.elim
  | _ :: _, _ :: _, 0, ⟨h1, h2⟩ => ⟨hs, h2⟩
  | _ :: _, _ :: _, i + 1, ⟨h1, h2⟩ => ⟨h1, EnvR.set hs i h2⟩
theorem EnvR.setD {env : Sl} {σ : L2.St} {d : D} {v : V} (h : EnvR K S env σ) (r : Rep K S d v) (i : Nat) : EnvR K S (env.set i (some d)) (σ.set i (some v)) := h.set (fun e q => ⟨v, rfl, by cases q; exact r⟩) i
theorem EnvR.un {env : Sl} {σ : L2.St} {o : Option V} (h : EnvR K S env σ) (i : Nat) : EnvR K S (env.set i none) (σ.set i o) := h.set (fun e q => by cases q) i
def wipeE (env : Sl) : List Nat → Sl
  | [] => env
  | v :: vs => (wipeE env vs).set v none
theorem EnvR.wipe {env : Sl} {σ : L2.St} (h : EnvR K S env σ) : ∀ vs : List Nat, EnvR K S (wipeE env vs) (L2.wipe σ vs)
  | [] => h
  | v :: vs => EnvR.un (EnvR.wipe h vs) v
/-- how a def begins -/
def env0 (N : List Str) (ds : List D) : Sl := ds.map some ++ List.replicate (N.length - ds.length) none
theorem env0_ok {N : List Str} {ds : List D} {vs : List V} (h : RepL K S ds vs) : EnvR K S (env0 N ds) (L2.start N vs) := by
  unfold env0 L2.start
  rw [h.length]
  have tl : ∀ n : Nat, EnvR K S (List.replicate n none) (List.replicate n none) := by
    intro n
    induction n with
    | zero => exact trivial
    | succ n ih => rw [List.replicate_succ, List.replicate_succ]; exact ⟨(fun d q => by cases q), ih⟩
  have go : ∀ {ds : List D} {vs : List V} (n : Nat), RepL K S ds vs → EnvR K S (ds.map some ++ List.replicate n none) (vs.map some ++ List.replicate n none) := by
    intro ds
    induction ds with
    | nil => intro vs n h; rw [show vs = [] from h]; exact tl n
    | cons s r ih =>
      intro vs n h
      obtain ⟨v, t, rfl, h1, h2⟩ := h
      exact ⟨(fun d q => by cases q; exact ⟨v, rfl, h1⟩), ih n h2⟩
  exact go _ h
end

/-! ### readings -/
abbrev QE := D → Mem → Prop
/-- an exception is known by the name of its class -/
def exNames : List Str := ["MintError", "NoBook", "NoColumn", "NoRule", "NoNumber", "NoTable", "TooMany", "Unlike", "NoCase", "NoLink", "NoHeld", "NothingLeft", "NoText", "NoRow"]
def exv (K : PySem.W.Frag) (x : Str) : Value := .ref (He.ga K x)
/-- is the class x one of y's -/
def subX (x y : Str) : Bool := decide (x = y) || decide (y = "MintError")
structure OkX (K : PySem.W.Frag) (x : Str) : Prop where
  glo : PySem.W.nsIn K mainGlobals x = some (some (exv K x))
  exc : PySem.W.excIn K (He.ga K x) He.veBase "ValueError.__new__" = true
  keep : PySem.W.keepIn K (exv K x) = true
  sub : PySem.W.subIn K (exv K x) (.type "BaseException") = some true
  ty : PySem.W.typeIn K (exv K x) = some (.type "type")
  ec : ExcC K (He.ga K x)
  exm : ∀ y ∈ exNames, PySem.W.nsIn K mainGlobals y = some (some (exv K y)) → PySem.W.exmOne K (exv K x) (exv K y) = some (subX x y)
  kit : ∀ y ∈ exNames, PySem.W.nsIn K mainGlobals y = some (some (exv K y)) → PySem.W.kitOne K (exv K x) (exv K y) = some (subX x y)
  ve : PySem.W.kitOne K (exv K x) (.type "ValueError") = some true
abbrev QX := Str → Mem → Prop
abbrev SE := Sl → Mem → QE → QX → Prop
abbrev ST := Sl → Mem → (Bool → Mem → Prop) → QX → Prop
abbrev SA := Sl → Mem → (List D → Mem → Prop) → QX → Prop
abbrev WK := L2.St → XK
section
variable (K : PySem.W.Frag) (E : WK)
def kX (S : Hp) (σ : L2.St) (Qx : QX) : Prop := ∀ c S2 M2 H2, Qx c M2 → Ex S S2 → OkX K c → Ok K S2 M2 H2 → E σ (exv K c) none H2
def kE (S : Hp) (Qd : QE) (Q : VK) : Prop := ∀ d v S2 M2 H2, Qd d M2 → Ex S S2 → Ok K S2 M2 H2 → Rep K S2 d v → Q v H2
def kT (S : Hp) (Qd : Bool → Mem → Prop) (Q : Bool → Hp → Prop) : Prop := ∀ b S2 M2 H2, Qd b M2 → Ex S S2 → Ok K S2 M2 H2 → Q b H2
def kA (S : Hp) (Qd : List D → Mem → Prop) (Q : List V → Hp → Prop) : Prop := ∀ ds vs S2 M2 H2, Qd ds M2 → Ex S S2 → Ok K S2 M2 H2 → RepL K S2 ds vs → Q vs H2
def tE (w : SE) : TE := fun σ H Q => ∃ S env M Qd Qx, Ok K S M H ∧ EnvR K S env σ ∧ w env M Qd Qx ∧ kE K S Qd Q ∧ kX K E S σ Qx
def tT (w : ST) : TT := fun σ H Q => ∃ S env M Qd Qx, Ok K S M H ∧ EnvR K S env σ ∧ w env M Qd Qx ∧ kT K S Qd Q ∧ kX K E S σ Qx
def tA (w : SA) : TA := fun σ H Q => ∃ S env M Qd Qx, Ok K S M H ∧ EnvR K S env σ ∧ w env M Qd Qx ∧ kA K S Qd Q ∧ kX K E S σ Qx
end
theorem kX.mono {K : PySem.W.Frag} {E : WK} {S S2 : Hp} {σ : L2.St} {Qx : QX} (h : kX K E S σ Qx) (e : Ex S S2) : kX K E S2 σ Qx := fun c S3 M3 H3 q e2 => h c S3 M3 H3 q (e.trans e2)
theorem kE.mono {K : PySem.W.Frag} {S S2 : Hp} {Qd : QE} {Q : VK} (h : kE K S Qd Q) (e : Ex S S2) : kE K S2 Qd Q := fun d v S3 M3 H3 q e2 ok => h d v S3 M3 H3 q (e.trans e2) ok
theorem kT.mono {K : PySem.W.Frag} {S S2 : Hp} {Qd : Bool → Mem → Prop} {Q : Bool → Hp → Prop} (h : kT K S Qd Q) (e : Ex S S2) : kT K S2 Qd Q := fun d S3 M3 H3 q e2 ok => h d S3 M3 H3 q (e.trans e2) ok
theorem kA.mono {K : PySem.W.Frag} {S S2 : Hp} {Qd : List D → Mem → Prop} {Q : List V → Hp → Prop} (h : kA K S Qd Q) (e : Ex S S2) : kA K S2 Qd Q := fun d v S3 M3 H3 q e2 ok => h d v S3 M3 H3 q (e.trans e2) ok
/-- the semantics of an expression is good -/
abbrev EW (X : Cx) (E : WK) (e : Expr) (w : SE) : Prop := PE X e (tE X.K E w)
abbrev TW (X : Cx) (E : WK) (e : Expr) (w : ST) : Prop := PT X e (tT X.K E w)
abbrev AW (X : Cx) (E : WK) (es : List Expr) (w : SA) : Prop := PA X es (tA X.K E w)
end FL
set_option Elab.async false
set_option linter.all false
set_option maxRecDepth 100000
set_option maxHeartbeats 4000000
namespace FL
open PySem PySem.Spec PyProof.Rows L2 Evl

section
variable {K : PySem.W.Frag} {E : WK} {S H : Hp} {M : Mem} {d a b : D} {v x y : V} {ds es : List D} {xs : List V} {Qd : QE} {Q : VK}
/-- the same heap -/
theorem kE.here (k : kE K S Qd Q) (ok : Ok K S M H) (q : Qd d M) (r : Rep K S d v) : Q v H := k d v S M H q (Ex.refl S) ok r
/-- a new list, as data or as one's own -/
@[simp ↓] def fresh (own : Bool) (ds : List D) (M : Mem) (Q : QE) : Prop := match own with
  | true => ∀ a, M a = none → Q (.ptr a) (put M a (.ml ds))
  | false => Q (.lst ds) M
theorem kE.tup (k : kE K S Qd Q) (ok : Ok K S M H) {p : Addr} (hp : H p = none) (q : Qd (.tup ds) M) (r : RepL K S ds xs) : Q (.ref p) (upd H p (.tup xs)) := by
  obtain ⟨e1, e2, e3, e4⟩ := ex_upd2 (o := .tup xs) ok.ex hp
  exact k _ _ _ _ _ q e1 (ok.grew e1 e2 e3 e4) ⟨p, xs, rfl, st_of upd_same, r.mono e1⟩
theorem kE.fresh {own : Bool} (k : kE K S Qd Q) (ok : Ok K S M H) {p : Addr} (hp : H p = none) (q : fresh own ds M Qd) (r : RepL K S ds xs) : Q (.ref p) (upd H p (.lst xs)) := by
  cases own with
  | false =>
    obtain ⟨e1, e2, e3, e4⟩ := ex_upd2 (o := .lst xs) ok.ex hp
    exact k _ _ _ _ _ q e1 (ok.grew e1 e2 e3 e4) ⟨p, xs, rfl, upd_same, r.mono e1⟩
  | true => exact k _ _ _ _ _ (q p (ok.fresh hp)) (Ex.refl S) (ok.newL hp r) rfl
/-- what stands in a list -/
def viewL (M : Mem) : D → Option (List D)
  | .lst ds => some ds
  | .ptr a => match M a with
    | some (.ml ds) => some ds
    | _ => none
  | _ => none
theorem view_rep (ok : Ok K S M H) (r : Rep K S d v) (h : viewL M d = some ds) : ∃ a xs, v = .ref a ∧ H a = some (.lst xs) ∧ RepL K S ds xs := by
  cases d with
  | lst es => cases h; obtain ⟨a, xs, e, h1, h2⟩ := r; exact ⟨a, xs, e, ok.ex a _ h1, h2⟩
  | ptr a =>
    cases hm : M a with
    | none => simp [viewL, hm] at h
    | some m =>
      cases m with
      | ml es =>
        simp [viewL, hm] at h
        subst h
        obtain ⟨_, vs, hv, r2⟩ := ok.own a _ hm
        exact ⟨a, vs, r, hv, r2⟩
      | _ => simp [viewL, hm] at h
  | _ => cases h
theorem tup_rep (ok : Ok K S M H) (r : Rep K S (.tup ds) v) : ∃ a xs, v = .ref a ∧ SqT K H a xs ∧ RepL K S ds xs := by
  obtain ⟨a, xs, e, h1, h2⟩ := r; exact ⟨a, xs, e, ex_t ok.ex h1, h2⟩
theorem RepL.two (r : RepL K S [a, b] xs) : ∃ x y, xs = [x, y] ∧ Rep K S a x ∧ Rep K S b y := by
  obtain ⟨x, t, rfl, h1, y, t2, rfl, h2, h3⟩ := r
  obtain rfl : t2 = [] := h3
  exact ⟨x, y, rfl, h1, h2⟩
theorem RepL.one' (r : RepL K S [a] xs) : ∃ x, xs = [x] ∧ Rep K S a x := by
  obtain ⟨x, t, rfl, h1, h3⟩ := r
  obtain rfl : t = [] := h3
  exact ⟨x, rfl, h1⟩
end

/-! ### two-place operations -/
abbrev Op2 := D → D → Mem → QE → Prop
def Good2 (K : PySem.W.Frag) (r : R2) (f : Op2) : Prop := ∀ (S : Hp) (M : Mem) (H : Hp) (x y : V) (a b : D) (Qd : QE) (Q : VK), Ok K S M H → Rep K S a x → Rep K S b y → f a b M Qd → kE K S Qd Q → r x y H Q
theorem OpR.or {X : Cx} {f : Value → Value → Sem Value} {r r' : R2} (h : OpR X f r) (h' : OpR X f r') : OpR X f (fun x y H Q => r x y H Q ∨ r' x y H Q) :=
  fun pins s σ H x y v u Q I rx ry q => q.elim (h pins s σ H x y v u Q I rx ry) (h' pins s σ H x y v u Q I rx ry)
def sizeOk (n : Nat) : Prop := n ≤ 100000
/-- + -/
@[simp ↓] def sAdd (own : Bool) : Op2 := fun a b M Q => match a, b with
  | .int i, .int j => Q (.int (i + j)) M
  | .str x, .str y => x.length + y.length ≤ 100000 ∧ Q (.str (x ++ y)) M
  | .tup xs, .tup ys => xs.length + ys.length ≤ 100000 ∧ Q (.tup (xs ++ ys)) M
  | a, b => ∃ xs ys, viewL M a = some xs ∧ viewL M b = some ys ∧ xs.length + ys.length ≤ 100000 ∧ fresh own (xs ++ ys) M Q
abbrev rAdd (K : PySem.W.Frag) : R2 := fun x y H Q => rI0 (fun i j => V.int (i + j)) x y H Q ∨ (∃ i j, x = .str i ∧ y = .str j ∧ i.length + j.length ≤ sizeLine ∧ Q (.str (i ++ j)) H) ∨ rCatA K x y H Q ∨ rCat x y H Q
theorem orAdd {X : Cx} : OpR X (binaryOp .Add) (rAdd X.K) := OpR.or op_add (OpR.or op_add_str (OpR.or op_catA op_cat))
theorem strOk_app {x y : Str} (h : PyData.strOk x = true) (g : PyData.strOk y = true) : PyData.strOk (x ++ y) = true := by
  unfold PyData.strOk at *
  rw [Array.all_eq_true_iff_forall_mem] at *
  intro c hc
  rcases Array.mem_append.mp hc with hc | hc
  · exact h c hc
  · exact g c hc
theorem good_add {K : PySem.W.Frag} {own : Bool} : Good2 K (rAdd K) (sAdd own) := by
  intro S M H x y a b Qd Q ok rx ry q k
  have lists : (∃ xs ys, viewL M a = some xs ∧ viewL M b = some ys ∧ xs.length + ys.length ≤ 100000 ∧ fresh own (xs ++ ys) M Qd) → rAdd K x y H Q := by
    rintro ⟨xs, ys, h1, h2, hl, q⟩
    obtain ⟨a1, us, rfl, e1, r1⟩ := view_rep ok rx h1
    obtain ⟨a2, ws, rfl, e2, r2⟩ := view_rep ok ry h2
    have l1 := r1.length
    have l2 := r2.length
    exact .inr (.inr (.inr ⟨a1, a2, us, ws, rfl, rfl, e1, e2, sz_of (by omega), fun p hp => k.fresh ok hp q (r1.append r2)⟩))
  cases a with
  | int i =>
    cases b with
    | int j => exact .inl ⟨i, j, rx, ry, k.here ok q rfl⟩
    | _ => exact lists q
  | str i =>
    cases b with
    | str j => exact .inr (.inl ⟨i, j, rx.1, ry.1, sz_of q.1, k.here ok q.2 ⟨rfl, strOk_app rx.2 ry.2⟩⟩)
    | _ => exact lists q
  | tup ds =>
    cases b with
    | tup es =>
      obtain ⟨a, xs, rfl, hq, rl⟩ := rx
      obtain ⟨b, ys, rfl, hq2, rl2⟩ := ry
      have l1 := rl.length
      have l2 := rl2.length
      refine .inr (.inr (.inl ⟨a, b, xs, ys, rfl, rfl, ex_t ok.ex hq, ex_t ok.ex hq2, sz_of (by have := q.1; omega), fun h0 => ?_, fun h0 h1 => ?_, fun _ _ p hp => k.tup ok hp q.2 (rl.append rl2)⟩))
      · subst h0
        have : ds = [] := List.length_eq_zero_iff.mp (by simpa using l1.symm)
        subst this
        exact k.here ok q.2 ⟨b, ys, rfl, hq2, rl2⟩
      · subst h1
        have : es = [] := List.length_eq_zero_iff.mp (by simpa using l2.symm)
        subst this
        have q2 := q.2
        rw [List.append_nil] at q2
        exact k.here ok q2 ⟨a, xs, rfl, hq, rl⟩
    | _ => exact lists q
  | _ => exact lists q
/-- two numbers -/
@[simp ↓] def sInt (C : Int → Int → Prop) (g : Int → Int → D) : Op2 := fun a b M Q => match a, b with
  | .int i, .int j => C i j ∧ Q (g i j) M
  | _, _ => False
def dV : D → V
  | .int i => .int i
  | .bl b => .bl b
  | _ => .non
theorem good_I {K : PySem.W.Frag} {C : Int → Int → Prop} {g : Int → Int → D} {f : Int → Int → V} (h : ∀ i j, Rep K (fun _ => none) (g i j) (f i j)) : Good2 K (rI C f) (sInt C g) := by
  intro S M H x y a b Qd Q ok rx ry q k
  cases a <;> try exact q.elim
  cases b <;> try exact q.elim
  exact ⟨_, _, rx, ry, q.1, k.here ok q.2 ((h _ _).mono fun a o z => by cases z)⟩
theorem good_I0 {K : PySem.W.Frag} {g : Int → Int → D} {f : Int → Int → V} (h : ∀ i j, Rep K (fun _ => none) (g i j) (f i j)) : Good2 K (rI0 f) (sInt (fun _ _ => True) g) := by
  intro S M H x y a b Qd Q ok rx ry q k
  cases a <;> try exact q.elim
  cases b <;> try exact q.elim
  exact ⟨_, _, rx, ry, k.here ok q.2 ((h _ _).mono fun a o z => by cases z)⟩
@[simp ↓] def sSub : Op2 := sInt (fun _ _ => True) fun i j => .int (i - j)
theorem good_sub {K : PySem.W.Frag} : Good2 K (rI0 fun i j => V.int (i - j)) sSub := good_I0 fun _ _ => rfl
@[simp ↓] def sDiv : Op2 := sInt CDivW fun i j => .int (i / j)
theorem good_div {K : PySem.W.Frag} : Good2 K (rI CDivW fun i j => V.int (i / j)) sDiv := good_I fun _ _ => rfl
@[simp ↓] def sMod : Op2 := sInt (fun _ j => 0 < j) fun i j => .int (i % j)
theorem good_mod {K : PySem.W.Frag} : Good2 K (rI (fun _ j => 0 < j) fun i j => V.int (i % j)) sMod := good_I fun _ _ => rfl
/-- * -/
@[simp ↓] def sMul (own : Bool) : Op2 := fun a b M Q => match a, b with
  | .int i, .int j => (CMul i j ∨ CMulW i j) ∧ Q (.int (i * j)) M
  | a, .int k => ∃ xs, viewL M a = some xs ∧ -(2 ^ 63) ≤ k ∧ k < 2 ^ 63 ∧ xs.length * k.toNat ≤ 100000 ∧ fresh own (List.replicate k.toNat xs).flatten M Q
  | _, _ => False
abbrev rMul : R2 := fun x y H Q => rI CMul (fun i j => V.int (i * j)) x y H Q ∨ rI CMulW (fun i j => V.int (i * j)) x y H Q ∨ rRep x y H Q
theorem orMul {X : Cx} : OpR X (binaryOp .Mult) rMul := OpR.or op_mul (OpR.or op_mulW op_rep)
theorem RepL.rep {K : PySem.W.Frag} {S : Hp} {ds : List D} {xs : List V} (r : RepL K S ds xs) : ∀ n, RepL K S (List.replicate n ds).flatten (List.replicate n xs).flatten
  | 0 => rfl
  | n + 1 => by rw [List.replicate_succ, List.replicate_succ, List.flatten_cons, List.flatten_cons]; exact r.append (RepL.rep r n)
theorem good_mul {K : PySem.W.Frag} {own : Bool} : Good2 K rMul (sMul own) := by
  intro S M H x y a b Qd Q ok rx ry q k
  have lists : ∀ n, b = .int n → (∃ xs, viewL M a = some xs ∧ -(2 ^ 63) ≤ n ∧ n < 2 ^ 63 ∧ xs.length * n.toNat ≤ 100000 ∧ fresh own (List.replicate n.toNat xs).flatten M Qd) → rMul x y H Q := by
    rintro n rfl ⟨xs, h1, h2, h3, hl, q⟩
    obtain ⟨a1, us, rfl, e1, r1⟩ := view_rep ok rx h1
    have l1 := r1.length
    exact .inr (.inr ⟨a1, n, us, rfl, ry, e1, h2, h3, sz_of (by rw [l1]; exact hl), fun p hp => k.fresh ok hp q (r1.rep _)⟩)
  cases b with
  | int j =>
    cases a with
    | int i =>
      rcases q.1 with h | h
      · exact .inl ⟨i, j, rx, ry, h, k.here ok q.2 rfl⟩
      · exact .inr (.inl ⟨i, j, rx, ry, h, k.here ok q.2 rfl⟩)
    | _ => exact lists j rfl q
  | _ => cases a <;> exact q.elim
end FL
namespace FL
open PySem PySem.Spec PyProof.Rows L2 Evl
/-! ### comparisons -/
mutual
/-- == -/
def eqD : D → D → Bool
  | .non, .non => true
  | .bl a, .bl b => a == b
  | .bl a, .int j => (if a then 1 else 0) == j
  | .int i, .bl b => i == (if b then 1 else 0)
  | .int i, .int j => i == j
  | .str x, .str y => x == y
  | .lst xs, .lst ys => eqDs xs ys
  | .tup xs, .tup ys => eqDs xs ys
  | _, _ => false
def eqDs : List D → List D → Bool
  | [], [] => true
  | x :: xs, y :: ys => eqD x y && eqDs xs ys
  | _, _ => false
end
mutual
theorem eqD_py : ∀ {a b : D}, pure a = true → pure b = true → PyData.eqv a.py b.py = eqD a b
  | .tup xs, .tup ys, p, q => by simp only [D.py, PyData.eqv, eqD]; exact eqDs_py p q
  | .lst xs, .lst ys, p, q => by simp only [D.py, PyData.eqv, eqD]; exact eqDs_py p q
  | .ptr _, _, p, _ => by cases p
  | .scr _, _, p, _ => by cases p
  | a, .ptr _, _, q => by cases q
  | a, .scr _, _, q => by cases q
  | .non, b, _, q => by cases b <;> first | (cases q; done) | simp [D.py, PyData.eqv, eqD]
  | .bl _, b, _, q => by cases b <;> first | (cases q; done) | simp [D.py, PyData.eqv, eqD]
  | .int _, b, _, q => by cases b <;> first | (cases q; done) | simp [D.py, PyData.eqv, eqD]
  | .str _, b, _, q => by cases b <;> first | (cases q; done) | simp [D.py, PyData.eqv, eqD]
  | .tup _, .non, _, q => by simp [D.py, PyData.eqv, eqD]
  | .tup _, .bl _, _, q => by simp [D.py, PyData.eqv, eqD]
  | .tup _, .int _, _, q => by simp [D.py, PyData.eqv, eqD]
  | .tup _, .str _, _, q => by simp [D.py, PyData.eqv, eqD]
  | .tup _, .lst _, _, q => by simp [D.py, PyData.eqv, eqD]
  | .lst _, .non, _, q => by simp [D.py, PyData.eqv, eqD]
  | .lst _, .bl _, _, q => by simp [D.py, PyData.eqv, eqD]
  | .lst _, .int _, _, q => by simp [D.py, PyData.eqv, eqD]
  | .lst _, .str _, _, q => by simp [D.py, PyData.eqv, eqD]
  | .lst _, .tup _, _, q => by simp [D.py, PyData.eqv, eqD]
theorem eqDs_py : ∀ {a b : List D}, pures a = true → pures b = true → PyData.eqvAll (D.pys a) (D.pys b) = eqDs a b
  | [], [], _, _ => by simp [D.pys, PyData.eqvAll, eqDs]
  | [], _ :: _, _, _ => by simp [D.pys, PyData.eqvAll, eqDs]
  | _ :: _, [], _, _ => by simp [D.pys, PyData.eqvAll, eqDs]
  | x :: xs, y :: ys, p, q => by
    have p' : (pure x && pures xs) = true := p
    have q' : (pure y && pures ys) = true := q
    rw [Bool.and_eq_true] at p' q'
    simp only [D.pys, PyData.eqvAll, eqDs]
    rw [eqD_py p'.1 q'.1, eqDs_py p'.2 q'.2]
end
/-- what stands behind a pointer to a list -/
def deref (M : Mem) : D → D
  | .ptr a => match M a with
    | some (.ml ds) => .lst ds
    | _ => .ptr a
  | d => d
theorem deref_rep {K : PySem.W.Frag} {S H : Hp} {M : Mem} {d : D} {v : V} (ok : Ok K S M H) (r : Rep K S d v) : Rep K H (deref M d) v := by
  cases d with
  | ptr a =>
    cases hm : M a with
    | none => simp only [deref, hm]; exact r
    | some m =>
      cases m with
      | ml es =>
        simp only [deref, hm]
        obtain ⟨_, vs, hv, r2⟩ := ok.own a _ hm
        exact ⟨a, vs, r, hv, r2.mono ok.ex⟩
      | _ => simp only [deref, hm]; exact r
  | _ => exact r.mono ok.ex
/-- ==, != -/
@[simp ↓] def sEq (neg : Bool) : Op2 := fun a b M Q =>
  pure (deref M a) = true ∧ pure (deref M b) = true ∧ min (dep (deref M a)) (dep (deref M b)) ≤ 64 ∧ Q (.bl (if neg then !eqD (deref M a) (deref M b) else eqD (deref M a) (deref M b))) M
def rEqM (K : PySem.W.Frag) (neg : Bool) : R2 := fun x y H Q => ∃ d e, Dp K H x d ∧ Dp K H y e ∧ d.canLay0 = true ∧ e.canLay0 = true ∧ min d.depth e.depth ≤ 64 ∧ Q (.bl (if neg then !PyData.eqv d e else PyData.eqv d e)) H
theorem orEq {X : Cx} (hu : X.A.units + 64 < cLine) : OpR X (compareOp .Eq) (rEqM X.K false) := by
  intro pins s σ H x y v u Q I rx ry h
  obtain ⟨d, e, hd, he, sd, se, hm, q⟩ := h
  obtain ⟨as, r1⟩ := Dp.reads I d x v hd rx
  obtain ⟨bs, r2⟩ := Dp.reads I e y u he ry
  exact SeqAt.compareEq_reads r1 r2 sd se (by omega) ⟨.bl _, H, I, rfl, q⟩
theorem orNe {X : Cx} (hu : X.A.units + 64 < cLine) : OpR X (compareOp .NotEq) (rEqM X.K true) := by
  intro pins s σ H x y v u Q I rx ry h
  obtain ⟨d, e, hd, he, sd, se, hm, q⟩ := h
  obtain ⟨as, r1⟩ := Dp.reads I d x v hd rx
  obtain ⟨bs, r2⟩ := Dp.reads I e y u he ry
  exact SeqAt.compareNe_reads r1 r2 sd se (by omega) ⟨.bl _, H, I, rfl, q⟩
theorem good_eq {K : PySem.W.Frag} {neg : Bool} : Good2 K (rEqM K neg) (sEq neg) := by
  intro S M H x y a b Qd Q ok rx ry ⟨p1, p2, hm, q⟩ k
  have r1 := deref_rep ok rx
  have r2 := deref_rep ok ry
  refine ⟨_, _, Rep.dp p1 r1, Rep.dp p2 r2, Rep.lay p1 r1, Rep.lay p2 r2, by rw [dep_py p1, dep_py p2]; exact hm, ?_⟩
  rw [eqD_py p1 p2]
  exact k.here ok q rfl
/-- <, <=, >, >= of two numbers, two texts -/
@[simp ↓] def sOrd (gi : Int → Int → Bool) (gs : Str → Str → Bool) : Op2 := fun a b M Q => match a, b with
  | .int i, .int j => Q (.bl (gi i j)) M
  | .str x, .str y => Q (.bl (gs x y)) M
  | _, _ => False
def ltS (x y : Str) : Bool := decide (x.cps.toList < y.cps.toList)
abbrev rOrd (gi : Int → Int → Bool) (gs : Str → Str → Bool) : R2 := fun x y H Q => rI0 (fun i j => V.bl (gi i j)) x y H Q ∨ ∃ i j, x = .str i ∧ y = .str j ∧ Q (.bl (gs i j)) H
theorem good_ord {K : PySem.W.Frag} {gi : Int → Int → Bool} {gs : Str → Str → Bool} : Good2 K (rOrd gi gs) (sOrd gi gs) := by
  intro S M H x y a b Qd Q ok rx ry q k
  cases a <;> cases b <;> first
    | exact q.elim
    | exact .inl ⟨_, _, rx, ry, k.here ok q rfl⟩
    | exact .inr ⟨_, _, rx.1, ry.1, k.here ok q rfl⟩
abbrev sLt : Op2 := sOrd (fun i j => decide (i < j)) ltS
abbrev sLe : Op2 := sOrd (fun i j => decide (i ≤ j)) fun x y => !ltS y x
abbrev sGt : Op2 := sOrd (fun i j => decide (j < i)) fun x y => ltS y x
abbrev sGe : Op2 := sOrd (fun i j => decide (j ≤ i)) fun x y => !ltS x y
theorem orLt {X : Cx} : OpR X (compareOp .Lt) (rOrd (fun i j => decide (i < j)) ltS) := OpR.or op_lt op_lt_str
theorem orLe {X : Cx} : OpR X (compareOp .LtE) (rOrd (fun i j => decide (i ≤ j)) fun x y => !ltS y x) := OpR.or op_le op_le_str
theorem orGt {X : Cx} : OpR X (compareOp .Gt) (rOrd (fun i j => decide (j < i)) fun x y => ltS y x) := OpR.or op_gt op_gt_str
theorem orGe {X : Cx} : OpR X (compareOp .GtE) (rOrd (fun i j => decide (j ≤ i)) fun x y => !ltS x y) := OpR.or op_ge op_ge_str
/-- is None, is not None -/
def isNon : D → Bool
  | .non => true
  | _ => false
@[simp ↓] def sIs (neg : Bool) : Op2 := fun a b M Q => match b with
  | .non => Q (.bl (if neg then !isNon a else isNon a)) M
  | _ => False
abbrev rIs (neg : Bool) : R2 := fun x y H Q => y = .non ∧ Q (.bl (if neg then !decide (x = .non) else decide (x = .non))) H
theorem good_is {K : PySem.W.Frag} {neg : Bool} : Good2 K (rIs neg) (sIs neg) := by
  intro S M H x y a b Qd Q ok rx ry q k
  cases b <;> try exact q.elim
  refine ⟨ry, ?_⟩
  have e : decide (x = V.non) = isNon a := by
    cases a with
    | non => rw [show x = V.non from rx]; rfl
    | bl _ => rw [show x = V.bl _ from rx]; rfl
    | int _ => rw [show x = V.int _ from rx]; rfl
    | str _ => rw [rx.1]; rfl
    | tup _ => obtain ⟨_, _, e, _⟩ := rx; rw [e]; rfl
    | lst _ => obtain ⟨_, _, e, _⟩ := rx; rw [e]; rfl
    | ptr _ => rw [show x = V.ref _ from rx]; rfl
    | scr _ => obtain ⟨_, e, _⟩ := rx; rw [e]; rfl
  rw [e]
  exact k.here ok q rfl
/-- in: a flat thing in a tuple, a list of such; a sign in a text -/
def flatD : D → Bool
  | .non => true | .bl _ => true | .int _ => true | .str _ => true | _ => false
def inD (d : D) (ds : List D) : Bool := ds.any fun e => eqD e d
theorem flatV_of {K : PySem.W.Frag} {S : Hp} {d : D} {x : V} (r : Rep K S d x) (h : flatD d = true) : flatV x = true := by
  cases d <;> first
    | (cases h; done)
    | (obtain rfl := r; rfl)
    | (rw [r.1]; rfl)
theorem flatVs_of {K : PySem.W.Frag} {S : Hp} : ∀ {ds : List D} {xs : List V}, RepL K S ds xs → ds.all flatD = true → xs.all flatV = true
  | [], _, h, _ => by rw [show _ = [] from h]; rfl
  | _ :: _, _, ⟨x, r, e1, h1, h2⟩, h => by
    rw [List.all_cons, Bool.and_eq_true] at h
    rw [e1, List.all_cons, flatV_of h1 h.1, flatVs_of h2 h.2]; rfl
theorem eqF_of {K : PySem.W.Frag} {S : Hp} {d e : D} {x y : V} (r : Rep K S d x) (q : Rep K S e y) (h : flatD d = true) (g : flatD e = true) : eqV x y = eqD d e := by
  cases d <;> first | (cases h; done) | (cases e <;> first
    | (cases g; done)
    | (obtain rfl := r; obtain rfl := q; simp [eqV, eqD]; done)
    | (obtain rfl := r; rw [q.1]; simp [eqV, eqD]; done)
    | (rw [r.1]; obtain rfl := q; simp [eqV, eqD]; done)
    | (rw [r.1, q.1]; simp [eqV, eqD]; done))
theorem inD_of {K : PySem.W.Frag} {S : Hp} {d : D} {x : V} (r : Rep K S d x) (h : flatD d = true) : ∀ {ds : List D} {xs : List V}, RepL K S ds xs → ds.all flatD = true → inV x xs = inD d ds
  | [], _, g, _ => by rw [show _ = [] from g]; rfl
  | _ :: ds, _, ⟨y, t, e1, h1, h2⟩, g => by
    rw [List.all_cons, Bool.and_eq_true] at g
    have ih := inD_of r h h2 g.2
    unfold inV inD at ih ⊢
    rw [e1, List.any_cons, List.any_cons, ih, eqF_of h1 r g.1 h]
def hasK {α β : Type} [DecidableEq α] (kvs : List (α × β)) (k : α) : Bool := kvs.any fun kv => decide (kv.1 = k)
def viewD (M : Mem) : D → Option (List (Key × D))
  | .ptr a => match M a with
    | some (.md kvs) => some kvs
    | some (.lk kvs) => some kvs
    | _ => none
  | _ => none
def keyOf : D → Option Key
  | .int i => some (.inl i)
  | .str x => some (.inr x)
  | _ => none
@[simp ↓] def sIn (neg : Bool) : Op2 := fun a b M Q => match b with
  | .str z => match a with
    | .str c => ∃ n : Nat, c = ⟨#[n]⟩ ∧ Q (.bl (if neg then !decide (n ∈ z.cps.toList) else decide (n ∈ z.cps.toList))) M
    | _ => False
  | .tup ds => flatD a = true ∧ ds.all flatD = true ∧ Q (.bl (if neg then !inD a ds else inD a ds)) M
  | b => ∃ ds, viewL M b = some ds ∧ flatD a = true ∧ ds.all flatD = true ∧ Q (.bl (if neg then !inD a ds else inD a ds)) M
abbrev rInA (K : PySem.W.Frag) (neg : Bool) : R2 := fun x y H Q => rIn K neg x y H Q ∨ ∃ (c : Nat) (z : Str), x = .str ⟨#[c]⟩ ∧ y = .str z ∧ Q (.bl (if neg then !decide (c ∈ z.cps.toList) else decide (c ∈ z.cps.toList))) H
theorem orIn {X : Cx} : OpR X (compareOp .In) (rInA X.K false) := OpR.or op_in_seq op_in_sign
theorem orNotIn {X : Cx} : OpR X (compareOp .NotIn) (rInA X.K true) := OpR.or op_notIn_seq op_notIn_sign
theorem good_in {K : PySem.W.Frag} {neg : Bool} : Good2 K (rInA K neg) (sIn neg) := by
  intro S M H x y a b Qd Q ok rx ry q k
  have lists : (∃ ds, viewL M b = some ds ∧ flatD a = true ∧ ds.all flatD = true ∧ Qd (.bl (if neg then !inD a ds else inD a ds)) M) → rInA K neg x y H Q := by
    rintro ⟨ds, h1, h2, h3, q⟩
    obtain ⟨p, us, rfl, e1, r1⟩ := view_rep ok ry h1
    refine .inl ⟨p, us, rfl, .inl (sq_of e1), flatV_of rx h2, flatVs_of r1 h3, ?_⟩
    rw [inD_of rx h2 r1 h3]
    exact k.here ok q (by cases neg <;> rfl)
  cases b with
  | str z =>
    cases a with
    | str c =>
      obtain ⟨n, rfl, q⟩ := q
      exact .inr ⟨n, z, rx.1, ry.1, k.here ok q (by cases neg <;> rfl)⟩
    | _ => exact q.elim
  | tup ds =>
    obtain ⟨h2, h3, q⟩ := q
    obtain ⟨p, us, rfl, e1, r1⟩ := tup_rep ok ry
    refine .inl ⟨p, us, rfl, .inr e1, flatV_of rx h2, flatVs_of r1 h3, ?_⟩
    rw [inD_of rx h2 r1 h3]
    exact k.here ok q (by cases neg <;> rfl)
  | _ => exact lists q
/-- subscripts -/
@[simp ↓] def sIx : Op2 := fun a b M Q => match b with
  | .int i => (match a with
    | .tup ds => ∃ d, atI ds i = some d ∧ Q d M
    | .str z => z.length ≤ 100000 ∧ ∃ c, atI z.cps.toList i = some c ∧ Q (.str ⟨#[c]⟩) M
    | .scr ns => ∃ n, atI ns i = some n ∧ Q (.int n) M
    | a => ∃ ds d, viewL M a = some ds ∧ atI ds i = some d ∧ Q d M)
  | _ => False
theorem atI_rep {K : PySem.W.Frag} {S : Hp} {ds : List D} {xs : List V} {i : Int} {d : D} (r : RepL K S ds xs) (h : atI ds i = some d) : ∃ v, atI xs i = some v ∧ Rep K S d v := by
  obtain ⟨j, h1, h2, h3, h4, h5⟩ := atI_get h
  have hl := r.length
  obtain ⟨v, hv, rv⟩ := r.get h2
  refine ⟨v, ?_, rv⟩
  unfold atI at h ⊢
  rw [hl]
  cases q : ixN ds.length i with
  | none => rw [q] at h; cases h
  | some n =>
    obtain ⟨q1, _⟩ := ixN_seq q
    rw [h1] at q1
    cases q1
    exact hv
theorem atI_map {α β : Type} {f : α → β} {l : List α} {i : Int} {a : α} (h : atI l i = some a) : atI (l.map f) i = some (f a) := by
  unfold atI at h ⊢
  rw [List.length_map]
  cases q : ixN l.length i with
  | none => rw [q] at h; cases h
  | some n =>
    rw [q] at h
    show (l.map f)[n]? = _
    rw [List.getElem?_map, show l[n]? = some a from h]; rfl
abbrev rIx (K : PySem.W.Frag) : R2 := fun x y H Q => rIxT K x y H Q ∨ rIxL K x y H Q ∨ rIxS x y H Q
end FL
set_option Elab.async false
set_option linter.all false
set_option maxRecDepth 100000
set_option maxHeartbeats 4000000
namespace FL
open PySem PySem.Spec PyProof.Rows L2 Evl
section
variable {X : Cx}
/-! ### dicts by values -/
theorem orDIn (hu : X.A.units + 1 < cLine) : OpR X (compareOp .In) (fun x y H Q => ∃ a o, y = .ref a ∧ DGet H a x o ∧ Q (.bl o.isSome) H) := by
  intro pins s σ H x y v u Q I rx ry h
  obtain ⟨a, o, rfl, g, q⟩ := h
  obtain rfl : u = .ref a := ry
  exact d_in hu I g rx fun s' I' => ⟨.bl _, H, I', rfl, q⟩
theorem orDNotIn (hu : X.A.units + 1 < cLine) : OpR X (compareOp .NotIn) (fun x y H Q => ∃ a o, y = .ref a ∧ DGet H a x o ∧ Q (.bl (!o.isSome)) H) := by
  intro pins s σ H x y v u Q I rx ry h
  obtain ⟨a, o, rfl, g, q⟩ := h
  obtain rfl : u = .ref a := ry
  exact d_notIn hu I g rx fun s' I' => ⟨.bl _, H, I', rfl, q⟩
theorem ixDict (hu : X.A.units + 1 < cLine) : IxR X (fun x y H Q => ∃ a v, x = .ref a ∧ DGet H a y (some v) ∧ Q v H) := by
  intro value slice pins s σ H x y v u Q I rx ry h hs
  obtain ⟨a, w, rfl, g, q⟩ := h
  obtain rfl : v = .ref a := rx
  have hT := dict_typeIs I g
  rcases g with ⟨kvs, k, e, ey, l⟩ | ⟨kvs, k, b, e, ey, eb, l⟩
  · subst ey
    obtain ⟨z, hd, vs, rel, dd⟩ := dk_rd I.hok e
    obtain ⟨w', hw, rw'⟩ := RelO.some_of (v := w) (o := valueAt vs k) (by rw [l]; exact rel.val k)
    exact subscriptTail_builtinR (x := w') hT PySem.F.slot_dict_getitem.lookup (wpAny_getItem_of (kV_is ry) dd.mapOf hw ⟨rfl, w, H, I.tok _, rw', q⟩) hs
  · subst ey
    cases (show u = Value.ref b from ry)
    obtain ⟨z, hd, xs, rel, dd⟩ := dt_rd I.hok e
    obtain ⟨w', hw, rw'⟩ := RelO.some_of (v := w) (o := (atKey xs k).map (·.2)) (by rw [l]; exact rel.val k)
    obtain ⟨p, hp, hp2⟩ := Option.map_eq_some_iff.mp hw
    refine subscriptTail_builtinR (x := w') hT PySem.F.slot_dict_getitem.lookup (wpAny_getItem_heap (tupleKind_room_in1 hu) (key_of I.hok eb) dd hp ?_) hs
    rw [hp2]
    exact ⟨rfl, w, H, I.tok _, rw', q⟩
/-- a dict's items -/
def getK {α β : Type} [DecidableEq α] : List (α × β) → α → Option β
  | [], _ => none
  | p :: r, k => if p.1 = k then some p.2 else getK r k
theorem RepKV.val {K : PySem.W.Frag} {S : Hp} (q : Key) : ∀ {kvs : List (Key × D)} {vs : List (Key × V)}, RepKV K S kvs vs → ∀ d, getK kvs q = some d → ∃ v, valV vs q = some v ∧ Rep K S d v
  | [], _, h, d, e => by cases e
  | p :: r, _, ⟨x, t, e1, h1, h2⟩, d, e => by
    rw [e1]
    unfold getK at e
    unfold valV
    rw [List.find?_cons]
    by_cases h : p.1 = q
    · rw [if_pos h] at e
      cases e
      exact ⟨x, by simp [h], h1⟩
    · rw [if_neg h] at e
      obtain ⟨v, hv, r2⟩ := RepKV.val q h2 d e
      exact ⟨v, by simpa [h, valV] using hv, r2⟩
theorem RepKV.has {K : PySem.W.Frag} {S : Hp} (q : Key) : ∀ {kvs : List (Key × D)} {vs : List (Key × V)}, RepKV K S kvs vs → (valV vs q).isSome = hasK kvs q
  | [], _, h => by rw [show _ = [] from h]; rfl
  | p :: r, _, ⟨x, t, e1, h1, h2⟩ => by
    rw [e1]
    have ih := RepKV.has q h2
    unfold valV hasK at *
    rw [List.find?_cons, List.any_cons]
    by_cases h : p.1 = q
    · simp [h]
    · simp [h]; simpa using ih
end
section
variable {K : PySem.W.Frag} {S H : Hp} {M : Mem} {d a b : D} {v x y : V}
def dictAt (m : MO) : Option (List (Key × D)) := match m with
  | .md kvs => some kvs
  | .lk kvs => some kvs
  | _ => none
theorem viewD_rep {kvs : List (Key × D)} (ok : Ok K S M H) (r : Rep K S d v) (h : viewD M d = some kvs) : ∃ a vs, v = .ref a ∧ Rd H a (.dK vs) ∧ RepKV K S kvs vs := by
  cases d with
  | ptr a =>
    cases hm : M a with
    | none => simp [viewD, hm] at h
    | some m =>
      cases m with
      | md es =>
        simp [viewD, hm] at h
        subst h
        obtain ⟨_, vs, hv, r2, _⟩ := ok.own a _ hm
        exact ⟨a, vs, r, .inl hv, r2⟩
      | lk es =>
        simp [viewD, hm] at h
        subst h
        obtain ⟨od, vs, _, hv, r2, _⟩ := ok.own a _ hm
        exact ⟨a, vs, r, .inr ⟨od, hv⟩, r2⟩
      | _ => simp [viewD, hm] at h
  | _ => cases h
theorem keyOf_rep {k : Key} (r : Rep K S d v) (h : keyOf d = some k) : v = kV k := by
  cases d <;> first
    | (cases h; done)
    | (cases h; exact r)
    | (cases h; exact r.1)
/-- in, with dicts -/
@[simp ↓] def sInD (neg : Bool) : Op2 := fun a b M Q => match viewD M b with
  | some kvs => ∃ k, keyOf a = some k ∧ Q (.bl (if neg then !hasK kvs k else hasK kvs k)) M
  | none => sIn neg a b M Q
abbrev rInAll (K : PySem.W.Frag) (neg : Bool) : R2 := fun x y H Q => rInA K neg x y H Q ∨ ∃ a o, y = .ref a ∧ DGet H a x o ∧ Q (.bl (if neg then !o.isSome else o.isSome)) H
theorem orInAll {X : Cx} (hu : X.A.units + 1 < cLine) : OpR X (compareOp .In) (rInAll X.K false) := OpR.or orIn (orDIn hu)
theorem orNotInAll {X : Cx} (hu : X.A.units + 1 < cLine) : OpR X (compareOp .NotIn) (rInAll X.K true) := OpR.or orNotIn (orDNotIn hu)
theorem good_inD {neg : Bool} : Good2 K (rInAll K neg) (sInD neg) := by
  intro S M H x y a b Qd Q ok rx ry q k
  unfold sInD at q
  cases hv : viewD M b with
  | none => rw [hv] at q; exact .inl (good_in S M H x y a b Qd Q ok rx ry q k)
  | some kvs =>
    rw [hv] at q
    obtain ⟨ky, hk, q⟩ := q
    obtain ⟨p, vs, rfl, rd, rk⟩ := viewD_rep ok ry hv
    refine .inr ⟨p, valV vs ky, rfl, .inl ⟨vs, ky, rd, keyOf_rep rx hk, rfl⟩, ?_⟩
    rw [rk.has]
    exact k.here ok q (by cases neg <;> rfl)
/-- subscripts, with dicts -/
@[simp ↓] def sSub1 : Op2 := fun a b M Q => match viewD M a with
  | some kvs => ∃ k d, keyOf b = some k ∧ getK kvs k = some d ∧ Q d M
  | none => sIx a b M Q
abbrev rSub1 (K : PySem.W.Frag) : R2 := fun x y H Q => rIx K x y H Q ∨ ∃ a v, x = .ref a ∧ DGet H a y (some v) ∧ Q v H
theorem ixSub1 {X : Cx} (hu : X.A.units + 1 < cLine) : IxR X (rSub1 X.K) := (ix_tup.or (ix_list.or ix_str)).or (ixDict hu)
theorem good_ix : Good2 K (rIx K) sIx := by
  intro S M H x y a b Qd Q ok rx ry q k
  cases b <;> try exact q.elim
  rename_i i
  have lists : (∃ ds d, viewL M a = some ds ∧ atI ds i = some d ∧ Qd d M) → rIx K x y H Q := by
    rintro ⟨ds, d, h1, h2, q⟩
    obtain ⟨p, us, rfl, e1, r1⟩ := view_rep ok rx h1
    obtain ⟨v, hv, rv⟩ := atI_rep r1 h2
    exact .inr (.inl ⟨p, us, i, v, rfl, ry, sq_of e1, hv, k.here ok q rv⟩)
  cases a with
  | tup ds =>
    obtain ⟨d, h2, q⟩ := q
    obtain ⟨p, us, rfl, e1, r1⟩ := tup_rep ok rx
    obtain ⟨v, hv, rv⟩ := atI_rep r1 h2
    exact .inl ⟨p, us, i, v, rfl, ry, e1, hv, k.here ok q rv⟩
  | str z =>
    obtain ⟨hz, c, h2, q⟩ := q
    have hc : PyData.strOk ⟨#[c]⟩ = true := by
      have hm : c ∈ z.cps := by
        obtain ⟨j, _, h3, _⟩ := atI_get h2
        exact Array.mem_toList_iff.mp (List.mem_of_getElem? h3)
      have := rx.2
      unfold PyData.strOk at *
      rw [Array.all_eq_true_iff_forall_mem] at *
      intro c' hc'
      simp at hc'
      subst hc'
      exact this _ hm
    exact .inr (.inr ⟨z, i, c, rx.1, ry, sz_of hz, h2, k.here ok q ⟨rfl, hc⟩⟩)
  | scr ns =>
    obtain ⟨n, h2, q⟩ := q
    obtain ⟨p, rfl, hq⟩ := rx
    exact .inr (.inl ⟨p, _, i, .int n, rfl, ry, ex_l ok.ex hq, atI_map h2, k.here ok q rfl⟩)
  | _ => exact lists q
theorem good_sub1 : Good2 K (rSub1 K) sSub1 := by
  intro S M H x y a b Qd Q ok rx ry q k
  unfold sSub1 at q
  cases hv : viewD M a with
  | none => rw [hv] at q; exact .inl (good_ix S M H x y a b Qd Q ok rx ry q k)
  | some kvs =>
    rw [hv] at q
    obtain ⟨ky, d, hk, hl, q⟩ := q
    obtain ⟨p, vs, rfl, rd, rk⟩ := viewD_rep ok rx hv
    obtain ⟨v, h1, h2⟩ := rk.val ky d hl
    exact .inr ⟨p, v, rfl, .inl ⟨vs, ky, rd, keyOf_rep ry hk, h1.symm⟩, k.here ok q h2⟩
end

/-! ### expressions -/
theorem PE.imp {X : Cx} {e : Expr} {t t' : TE} (h : PE X e t) (w : ∀ σ H Q, t' σ H Q → t σ H Q) : PE X e t' := ⟨fun pins s σ H Q I q => h.run pins s σ H Q I (w σ H Q q)⟩
theorem PT.imp {X : Cx} {e : Expr} {t t' : TT} (h : PT X e t) (w : ∀ σ H Q, t' σ H Q → t σ H Q) : PT X e t' := ⟨fun pins s σ H Q I q => h.run pins s σ H Q I (w σ H Q q)⟩
theorem PW.imp {X : Cx} {e : Expr} {t t' : TT} (h : PW X e t) (w : ∀ σ H Q, t' σ H Q → t σ H Q) : PW X e t' := ⟨fun wh pins s σ H Q I q => h.run wh pins s σ H Q I (w σ H Q q)⟩
theorem PA.imp {X : Cx} {es : List Expr} {t t' : TA} (h : PA X es t) (w : ∀ σ H Q, t' σ H Q → t σ H Q) : PA X es t' := ⟨fun pos pins s σ H Q I q => h.run pos pins s σ H Q I (w σ H Q q)⟩
theorem PS.imp {X : Cx} {st : Stmt} {t t' : TS} (h : PS X st t) (w : ∀ D σ H, t' D σ H → t D σ H) : PS X st t' := ⟨fun pins s σ H D I q => h.run pins s σ H D I (w D σ H q)⟩
theorem PSs.imp {X : Cx} {st : List Stmt} {t t' : TS} (h : PSs X st t) (w : ∀ D σ H, t' D σ H → t D σ H) : PSs X st t' := ⟨fun pins s σ H D I q => h.run pins s σ H D I (w D σ H q)⟩
theorem PI.imp {X : Cx} {tg e : Expr} {t t' : TI} (h : PI X tg e t) (w : ∀ σ H Q, t' σ H Q → t σ H Q) : PI X tg e t' := ⟨fun pins s σ H Q I q => h.run pins s σ H Q I (w σ H Q q)⟩
theorem PTs.imp {X : Cx} {es : List Expr} {t t' : TT} (h : PTs X es t) (w : ∀ σ H Q, t' σ H Q → t σ H Q) : PTs X es t' := ⟨fun pins s σ H Q I q => h.run pins s σ H Q I (w σ H Q q)⟩
@[simp ↓] def wBot : SE := fun _ _ _ _ => False
@[simp ↓] def wSlot (i : Nat) : SE := fun env M Q _ => match env[i]? with
  | some (some d) => Q d M
  | _ => False
@[simp ↓] def wC (d : D) : SE := fun _ M Q _ => Q d M
/-- two parts, then an operation -/
@[simp ↓] def w2 (f : Op2) (wa wb : SE) : SE := fun env M Q X => wa env M (fun a M1 => wb env M1 (fun b M2 => f a b M2 Q) X) X
section
variable {X : Cx} {E : WK} {e a b c : Expr} {wa wb wc : SE} {pos : Pos}
theorem never {t : TE} : PE X e (fun _ _ _ => False) := ⟨fun _ _ _ _ _ _ z => z.elim⟩
theorem ew_bot : EW X E e wBot := ⟨fun _ _ _ _ _ _ ⟨_, _, _, _, _, _, _, z, _⟩ => z.elim⟩
theorem ew_slot {i : Nat} (h : PE X e (tVar i)) : EW X E e (wSlot i) := PE.imp h fun σ H Q ⟨S, env, M, Qd, Qx, ok, en, q, k, x⟩ => by
  unfold wSlot at q
  split at q
  · rename_i d he
    obtain ⟨v, hv, r⟩ := en.get he
    exact ⟨v, hv, k.here ok q r⟩
  · exact q.elim
theorem ew_const {d : D} {v : V} (h : PE X e (tC v)) (hr : ∀ S, Rep X.K S d v) : EW X E e (wC d) := PE.imp h fun σ H Q ⟨S, env, M, Qd, Qx, ok, en, q, k, x⟩ => k.here ok q (hr S)
theorem w2_read {r : R2} {f : Op2} {σ : L2.St} {H : Hp} {Q : VK} (g : Good2 X.K r f) (q : tE X.K E (w2 f wa wb) σ H Q) : tOp r (tE X.K E wa) (tE X.K E wb) σ H Q := by
  obtain ⟨S, env, M, Qd, Qx, ok, en, q, k, x⟩ := q
  refine ⟨S, env, M, _, Qx, ok, en, q, fun da v S1 M1 H1 q1 e1 ok1 r1 => ?_, x⟩
  refine ⟨S1, env, M1, _, Qx, ok1, en.mono e1, q1, fun db u S2 M2 H2 q2 e2 ok2 r2 => ?_, x.mono e1⟩
  exact g S2 M2 H2 v u da db Qd Q ok2 (r1.mono e2) r2 q2 (k.mono (e1.trans e2))
theorem ew_op {op : Operator} {r : R2} {f : Op2} (ho : OpR X (binaryOp op) r) (g : Good2 X.K r f) (ha : EW X E a wa) (hb : EW X E b wb) : EW X E (.BinOp a op b pos) (w2 f wa wb) :=
  PE.imp (pe_op ho ha hb) fun _ _ _ q => w2_read g q
theorem ew_cmp {op : CmpOp} {r : R2} {f : Op2} (ho : OpR X (compareOp op) r) (g : Good2 X.K r f) (hm : behindInMarks op b = false) (ha : EW X E a wa) (hb : EW X E b wb) : EW X E (.Compare a [op] [b] pos) (w2 f wa wb) :=
  PE.imp (pe_cmpR ho ha hb hm) fun _ _ _ q => w2_read g q
theorem ew_ix {r : R2} {f : Op2} (ho : IxR X r) (g : Good2 X.K r f) (hs : PlainIx b) (ha : EW X E a wa) (hb : EW X E b wb) : EW X E (.Subscript a b pos) (w2 f wa wb) :=
  PE.imp (pe_ix ho ha hb hs) fun _ _ _ q => w2_read g q
/-- a value read as a test: True or False -/
@[simp ↓] def wTest (w : SE) : ST := fun env M Q X => w env M (fun d M1 => match d with
  | .bl b => Q b M1
  | _ => False) X
theorem test_read {σ : L2.St} {H : Hp} {Q : Bool → Hp → Prop} {te : TE} (h : ∀ Q, tE X.K E wa σ H Q → te σ H Q) (q : tT X.K E (wTest wa) σ H Q) : tTest te σ H Q := by
  obtain ⟨S, env, M, Qd, Qx, ok, en, q, k, x⟩ := q
  refine h _ ⟨S, env, M, _, Qx, ok, en, q, fun d v S1 M1 H1 q1 e1 ok1 r1 => ?_, x⟩
  cases d <;> try exact q1.elim
  exact ⟨_, r1, k _ S1 M1 H1 q1 e1 ok1⟩
theorem tw_cmp {op : CmpOp} {r : R2} {f : Op2} (ho : OpR X (compareOp op) r) (g : Good2 X.K r f) (hm : behindInMarks op b = false) (ha : EW X E a wa) (hb : EW X E b wb) : TW X E (.Compare a [op] [b] pos) (wTest (w2 f wa wb)) :=
  PT.imp (pt_cmpR ho ha hb hm) fun σ H Q q => test_read (fun _ z => w2_read g z) q
theorem tw_val (he : ∀ whole, isTrue e X.env whole = (do let v ← whole; standAt e.pos; holding [v] (truthy v))) (h : EW X E e wa) : TW X E e (wTest wa) :=
  PT.imp (pt_val h he) fun σ H Q q => test_read (fun _ z => z) q
/-- a op b op' c -/
@[simp ↓] def w3 (f g : Op2) (wa wb wc : SE) : SE := fun env M Q X => wa env M (fun a M1 => wb env M1 (fun b M2 => f a b M2 (fun z M3 => match z with
  | .bl k => if k = true then wc env M3 (fun c M4 => g b c M4 Q) X else Q (.bl false) M3
  | _ => False)) X) X
theorem w3_read {r r' : R2} {f f' : Op2} {σ : L2.St} {H : Hp} {Q : VK} (g : Good2 X.K r f) (g' : Good2 X.K r' f') (q : tE X.K E (w3 f f' wa wb wc) σ H Q) : tChain r r' (tE X.K E wa) (tE X.K E wb) (tE X.K E wc) σ H Q := by
  obtain ⟨S, env, M, Qd, Qx, ok, en, q, k, x⟩ := q
  refine ⟨S, env, M, _, Qx, ok, en, q, fun da v S1 M1 H1 q1 e1 ok1 r1 => ?_, x⟩
  refine ⟨S1, env, M1, _, Qx, ok1, en.mono e1, q1, fun db u S2 M2 H2 q2 e2 ok2 r2 => ?_, x.mono e1⟩
  refine g S2 M2 H2 v u da db _ _ ok2 (r1.mono e2) r2 q2 fun z w S3 M3 H3 q3 e3 ok3 r3 => ?_
  cases z <;> try exact q3.elim
  rename_i bb
  refine ⟨bb, r3, ?_⟩
  cases bb with
  | false => exact k _ _ S3 M3 H3 q3 ((e1.trans e2).trans e3) ok3 rfl
  | true =>
    refine ⟨S3, env, M3, _, Qx, ok3, en.mono ((e1.trans e2).trans e3), q3, fun dc t S4 M4 H4 q4 e4 ok4 r4 => ?_, x.mono ((e1.trans e2).trans e3)⟩
    exact g' S4 M4 H4 u t db dc Qd Q ok4 (r2.mono (e3.trans e4)) r4 q4 (k.mono (((e1.trans e2).trans e3).trans e4))
theorem ew_chain {op op' : CmpOp} {r r' : R2} {f f' : Op2} (ho : OpR X (compareOp op) r) (ho' : OpR X (compareOp op') r') (g : Good2 X.K r f) (g' : Good2 X.K r' f') (hm : lastMarks [op, op'] [b, c] = false) (ha : EW X E a wa) (hb : EW X E b wb) (hc : EW X E c wc) :
    EW X E (.Compare a [op, op'] [b, c] pos) (w3 f f' wa wb wc) := PE.imp (pe_chain ho ho' ha hb hc hm) fun _ _ _ q => w3_read g g' q
theorem tw_chain {op op' : CmpOp} {r r' : R2} {f f' : Op2} (ho : OpR X (compareOp op) r) (ho' : OpR X (compareOp op') r') (g : Good2 X.K r f) (g' : Good2 X.K r' f') (hm : lastMarks [op, op'] [b, c] = false) (ha : EW X E a wa) (hb : EW X E b wb) (hc : EW X E c wc) :
    TW X E (.Compare a [op, op'] [b, c] pos) (wTest (w3 f f' wa wb wc)) := PT.imp (pt_chain ho ho' ha hb hc hm) fun σ H Q q => test_read (fun _ z => w3_read g g' z) q
end
end FL
set_option Elab.async false
set_option linter.all false
set_option maxRecDepth 100000
set_option maxHeartbeats 4000000
namespace FL
open PySem PySem.Spec PyProof.Rows L2 Evl
section
variable {X : Cx} {E : WK} {e a b c : Expr} {rest es : List Expr} {wa wb wc : SE} {ta tb tc : ST} {pos : Pos}
/-! ### and, or, not, if -/
@[simp ↓] def tAnd (ta tb : ST) : ST := fun env M Q X => ta env M (fun b M1 => if b = true then tb env M1 Q X else Q false M1) X
@[simp ↓] def tOr (ta tb : ST) : ST := fun env M Q X => ta env M (fun b M1 => if b = true then Q true M1 else tb env M1 Q X) X
@[simp ↓] def tNot (ta : ST) : ST := fun env M Q X => ta env M (fun b M1 => Q (!b) M1) X
@[simp ↓] def wIf (tc : ST) (wa wb : SE) : SE := fun env M Q X => tc env M (fun b M1 => if b = true then wa env M1 Q X else wb env M1 Q X) X
/-- as values: of bools -/
@[simp ↓] def wAnd (wa wb : SE) : SE := fun env M Q X => wa env M (fun d M1 => match d with
  | .bl k => if k = true then wb env M1 Q X else Q (.bl false) M1
  | _ => False) X
@[simp ↓] def wOr (wa wb : SE) : SE := fun env M Q X => wa env M (fun d M1 => match d with
  | .bl k => if k = true then Q (.bl true) M1 else wb env M1 Q X
  | _ => False) X
@[simp ↓] def wNot (wa : SE) : SE := fun env M Q X => wa env M (fun d M1 => match d with
  | .bl b => Q (.bl (!b)) M1
  | _ => False) X
abbrev WW (X : Cx) (E : WK) (e : Expr) (w : ST) : Prop := PW X e (tT X.K E w)
theorem ww_and1 (h : TW X E a ta) : WW X E (.BoolOp .And [a] pos) ta := pw_and1 h
theorem ww_or1 (h : TW X E a ta) : WW X E (.BoolOp .Or [a] pos) ta := pw_or1 h
theorem ww_and (ha : TW X E a ta) (hb : WW X E (.BoolOp .And (b :: rest) pos) tb) : WW X E (.BoolOp .And (a :: b :: rest) pos) (tAnd ta tb) := by
  refine PW.imp (pw_and ha hb) fun σ H Q ⟨S, env, M, Qd, Qx, ok, en, q, k, x⟩ => ⟨S, env, M, _, Qx, ok, en, q, fun bb S1 M1 H1 q1 e1 ok1 => ?_, x⟩
  cases bb with
  | true => exact iteT ⟨S1, env, M1, Qd, Qx, ok1, en.mono e1, q1, k.mono e1, x.mono e1⟩
  | false => exact iteF (k _ S1 M1 H1 q1 e1 ok1)
theorem ww_or (ha : TW X E a ta) (hb : WW X E (.BoolOp .Or (b :: rest) pos) tb) : WW X E (.BoolOp .Or (a :: b :: rest) pos) (tOr ta tb) := by
  refine PW.imp (pw_or ha hb) fun σ H Q ⟨S, env, M, Qd, Qx, ok, en, q, k, x⟩ => ⟨S, env, M, _, Qx, ok, en, q, fun bb S1 M1 H1 q1 e1 ok1 => ?_, x⟩
  cases bb with
  | false => exact iteF ⟨S1, env, M1, Qd, Qx, ok1, en.mono e1, q1, k.mono e1, x.mono e1⟩
  | true => exact iteT (k _ S1 M1 H1 q1 e1 ok1)
theorem tw_not (ha : TW X E a ta) : TW X E (.UnaryOp .Not a pos) (tNot ta) :=
  PT.imp (pt_not ha) fun σ H Q ⟨S, env, M, Qd, Qx, ok, en, q, k, x⟩ => ⟨S, env, M, _, Qx, ok, en, q, fun bb S1 M1 H1 q1 e1 ok1 => k _ S1 M1 H1 q1 e1 ok1, x⟩
theorem ew_one {op} (h : EW X E a wa) : EW X E (.BoolOp op [a] pos) wa := pe_one h
theorem ew_and (ha : EW X E a wa) (hb : EW X E (.BoolOp .And (b :: rest) pos) wb) : EW X E (.BoolOp .And (a :: b :: rest) pos) (wAnd wa wb) := by
  refine PE.imp (pe_and ha hb) fun σ H Q ⟨S, env, M, Qd, Qx, ok, en, q, k, x⟩ => ⟨S, env, M, _, Qx, ok, en, q, fun d v S1 M1 H1 q1 e1 ok1 r1 => ?_, x⟩
  cases d <;> try exact q1.elim
  rename_i bb
  refine ⟨bb, r1, ?_⟩
  cases bb with
  | true => exact iteT ⟨S1, env, M1, Qd, Qx, ok1, en.mono e1, q1, k.mono e1, x.mono e1⟩
  | false => exact iteF (k _ _ S1 M1 H1 q1 e1 ok1 rfl)
theorem ew_or (ha : EW X E a wa) (hb : EW X E (.BoolOp .Or (b :: rest) pos) wb) : EW X E (.BoolOp .Or (a :: b :: rest) pos) (wOr wa wb) := by
  refine PE.imp (pe_or ha hb) fun σ H Q ⟨S, env, M, Qd, Qx, ok, en, q, k, x⟩ => ⟨S, env, M, _, Qx, ok, en, q, fun d v S1 M1 H1 q1 e1 ok1 r1 => ?_, x⟩
  cases d <;> try exact q1.elim
  rename_i bb
  refine ⟨bb, r1, ?_⟩
  cases bb with
  | false => exact iteF ⟨S1, env, M1, Qd, Qx, ok1, en.mono e1, q1, k.mono e1, x.mono e1⟩
  | true => exact iteT (k _ _ S1 M1 H1 q1 e1 ok1 rfl)
theorem ew_not (ha : EW X E a wa) : EW X E (.UnaryOp .Not a pos) (wNot wa) :=
  PE.imp (pe_not ha) fun σ H Q ⟨S, env, M, Qd, Qx, ok, en, q, k, x⟩ => ⟨S, env, M, _, Qx, ok, en, q, fun d v S1 M1 H1 q1 e1 ok1 r1 => by
    cases d <;> try exact q1.elim
    exact ⟨_, r1, k _ _ S1 M1 H1 q1 e1 ok1 rfl⟩, x⟩
theorem ew_if (hc : TW X E c tc) (ha : EW X E a wa) (hb : EW X E b wb) : EW X E (.IfExp c a b pos) (wIf tc wa wb) := by
  refine PE.imp (pe_ifExp hc ha hb) fun σ H Q ⟨S, env, M, Qd, Qx, ok, en, q, k, x⟩ => ⟨S, env, M, _, Qx, ok, en, q, fun bb S1 M1 H1 q1 e1 ok1 => ?_, x⟩
  cases bb with
  | true => exact iteT ⟨S1, env, M1, Qd, Qx, ok1, en.mono e1, q1, k.mono e1, x.mono e1⟩
  | false => exact iteF ⟨S1, env, M1, Qd, Qx, ok1, en.mono e1, q1, k.mono e1, x.mono e1⟩
/-- - of a number -/
@[simp ↓] def wNeg (wa : SE) : SE := fun env M Q X => wa env M (fun d M1 => match d with
  | .int i => Q (.int (-i)) M1
  | _ => False) X

/-! ### arguments -/
@[simp ↓] def aNil : SA := fun _ M Q _ => Q [] M
@[simp ↓] def aCons (wa : SE) (wr : SA) : SA := fun env M Q X => wa env M (fun d M1 => wr env M1 (fun ds M2 => Q (d :: ds) M2) X) X
def starred : Expr → Bool
  | .Starred .. => true
  | _ => false
theorem star_cons (h : starred a = false) (env : PySem.Env) : starEach (a :: es) env = (false, eval a env) :: starEach es env := by
  cases a <;> first | (cases h; done) | rw [starEach]; done | (rw [starEach]; intros; exact fun z => nomatch z) | (simp [starEach]; done)
theorem star_none (env : PySem.Env) : ∀ {es : List Expr}, es.all (fun e => !starred e) = true → (backTo pos (starEach es env)).any (·.1) = false
  | [], _ => rfl
  | a :: es, h => by
    rw [List.all_cons, Bool.and_eq_true] at h
    have h1 : starred a = false := by have := h.1; revert this; cases starred a <;> simp
    rw [star_cons h1]
    show ((false || (backTo pos (starEach es env)).any (·.1)) = false)
    rw [star_none env h.2]; rfl
theorem aw_nil : AW X E [] aNil :=
  PA.imp pa_nil fun σ H Q ⟨S, env, M, Qd, Qx, ok, en, q, k, x⟩ => k [] [] S M H q (Ex.refl _) ok rfl
theorem aw_cons {wr : SA} (hs : starred a = false) (ha : EW X E a wa) (hr : AW X E es wr) : AW X E (a :: es) (aCons wa wr) :=
  PA.imp (pa_cons ha hr (star_cons hs _)) fun σ H Q ⟨S, env, M, Qd, Qx, ok, en, q, k, x⟩ => ⟨S, env, M, _, Qx, ok, en, q, fun d v S1 M1 H1 q1 e1 ok1 r1 =>
    ⟨S1, env, M1, _, Qx, ok1, en.mono e1, q1, fun ds vs S2 M2 H2 q2 e2 ok2 r2 => k _ _ S2 M2 H2 q2 (e1.trans e2) ok2 (RepL.cons (r1.mono e2) r2), x.mono e1⟩, x⟩
/-- a function of values -/
abbrev OpN := List D → Mem → QE → Prop
def GoodF (K : PySem.W.Frag) (r : List V → Hp → VK → Prop) (f : OpN) : Prop := ∀ (S : Hp) (M : Mem) (H : Hp) (xs : List V) (ds : List D) (Qd : QE) (Q : VK), Ok K S M H → RepL K S ds xs → f ds M Qd → kE K S Qd Q → r xs H Q
@[simp ↓] def wF (f : OpN) (w : SA) : SE := fun env M Q X => w env M (fun ds M1 => f ds M1 Q) X
theorem wF_read {r : List V → Hp → VK → Prop} {f : OpN} {w : SA} {σ : L2.St} {H : Hp} {Q : VK} (g : GoodF X.K r f) (q : tE X.K E (wF f w) σ H Q) : tCB r (tA X.K E w) σ H Q := by
  obtain ⟨S, env, M, Qd, Qx, ok, en, q, k, x⟩ := q
  exact ⟨S, env, M, _, Qx, ok, en, q, fun ds vs S1 M1 H1 q1 e1 ok1 r1 => g S1 M1 H1 vs ds Qd Q ok1 r1 q1 (k.mono e1), x⟩
theorem ew_callB {id : String} {r : List V → Hp → VK → Prop} {f : OpN} {w : SA} {x : Str} {p : Pos} (hc : CallR X (.builtin id) r) (g : GoodF X.K r f) (hg : Gl X x) (hm : X.mg x = none) (hv : bootBuiltins x = some (.builtin id)) (hn : x ≠ "__name__") (hdb : (x == ("__debug__" : Str)) = false)
    (hs : (a :: es).all (fun e => !starred e) = true) (ha : AW X E (a :: es) w) : EW X E (.Call (.Name x p) (a :: es) [] pos) (wF f w) := by
  have hs' := hs
  rw [List.all_cons, Bool.and_eq_true] at hs'
  exact PE.imp (pe_callB hc hg hm hv ha hn hdb (star_cons (by have := hs'.1; revert this; cases starred a <;> simp) _) (star_none _ hs'.2)) fun σ H Q q => wF_read g q
theorem ew_callTy {T : String} {r : List V → Hp → VK → Prop} {f : OpN} {w : SA} {x : Str} {p : Pos} (hc : CallR X (.type T) r) (g : GoodF X.K r f) (hg : Gl X x) (hm : X.mg x = none) (hv : bootBuiltins x = some (.type T)) (hn : x ≠ "__name__") (hdb : (x == ("__debug__" : Str)) = false)
    (hs : (a :: es).all (fun e => !starred e) = true) (ha : AW X E (a :: es) w) : EW X E (.Call (.Name x p) (a :: es) [] pos) (wF f w) := by
  have hs' := hs
  rw [List.all_cons, Bool.and_eq_true] at hs'
  exact PE.imp (pe_callTy hc hg hm hv ha hn hdb (star_cons (by have := hs'.1; revert this; cases starred a <;> simp) _) (star_none _ hs'.2)) fun σ H Q q => wF_read g q
@[simp ↓] def sTup : OpN := fun ds M Q => ds.length ≤ 100000 ∧ Q (.tup ds) M
@[simp ↓] def sLst (own : Bool) : OpN := fun ds M Q => ds.length ≤ 100000 ∧ fresh own ds M Q
theorem ew_tup {w : SA} {n} (h : AW X E es w) : EW X E (.Tuple es n pos) (wF sTup w) :=
  PE.imp (pe_tup h) fun σ H Q ⟨S, env, M, Qd, Qx, ok, en, q, k, x⟩ => ⟨S, env, M, _, Qx, ok, en, q, fun ds vs S1 M1 H1 q1 e1 ok1 r1 => ⟨sz_of (by rw [r1.length]; exact q1.1), fun p hp => (k.mono e1).tup ok1 hp q1.2 r1⟩, x⟩
theorem ew_lst {own : Bool} {w : SA} (h : AW X E es w) : EW X E (.List es pos) (wF (sLst own) w) :=
  PE.imp (pe_lst h) fun σ H Q ⟨S, env, M, Qd, Qx, ok, en, q, k, x⟩ => ⟨S, env, M, _, Qx, ok, en, q, fun ds vs S1 M1 H1 q1 e1 ok1 r1 => ⟨sz_of (by rw [r1.length]; exact q1.1), fun p hp => (k.mono e1).fresh ok1 hp q1.2 r1⟩, x⟩
/-- an owned list as data, from here on -/
@[simp ↓] def wFrz (w : SE) : SE := fun env M Q X => w env M (fun d M1 => match d with
  | .ptr a => ∃ ds, M1 a = some (.ml ds) ∧ Q (.lst ds) (fun b => if b = a then none else M1 b)
  | d => Q d M1) X
theorem ew_frz (h : EW X E e wa) : EW X E e (wFrz wa) := PE.imp h fun σ H Q ⟨S, env, M, Qd, Qx, ok, en, q, k, x⟩ => ⟨S, env, M, _, Qx, ok, en, q, fun d v S1 M1 H1 q1 e1 ok1 r1 => by
  cases d <;> try exact k _ _ S1 M1 H1 q1 e1 ok1 r1
  obtain ⟨ds, hm, q1⟩ := q1
  obtain ⟨S2, e2, ok2, r2⟩ := ok1.freeze hm
  obtain rfl : v = .ref _ := r1
  exact k _ _ S2 _ H1 q1 (e1.trans e2) ok2 r2, x⟩
end

/-! ### built-in functions -/
section
variable {K : PySem.W.Frag}
@[simp ↓] def sLen : OpN := fun ds M Q => match ds with
  | [d] => (match d with
    | .tup xs => Q (.int xs.length) M
    | .str z => z.length ≤ 100000 ∧ Q (.int z.length) M
    | .scr ns => Q (.int ns.length) M
    | d => (∃ xs, viewL M d = some xs ∧ Q (.int xs.length) M) ∨ ∃ kvs, viewD M d = some kvs ∧ Q (.int kvs.length) M)
  | _ => False
abbrev rLenA (K : PySem.W.Frag) : List V → Hp → VK → Prop := fun xs H Q => (∃ x n, xs = [x] ∧ LenV K x H n ∧ Q (.int n) H) ∨ ∃ a kvs, xs = [V.ref a] ∧ Rd H a (.dK kvs) ∧ Q (.int kvs.length) H
theorem call_lenRd {X : Cx} : CallR X (.builtin "len") (fun xs H Q => ∃ a kvs, xs = [V.ref a] ∧ Rd H a (.dK kvs) ∧ Q (.int kvs.length) H) := by
  intro pins s σ H xs us Q I r h
  obtain ⟨a, kvs, rfl, ha, q⟩ := h
  obtain ⟨u, rfl, ru⟩ := vals1 r
  cases ru
  exact d_len I ha fun t s' I' => ⟨.int kvs.length, H, I', ⟨t, rfl⟩, q⟩
theorem crLen {X : Cx} : CallR X (.builtin "len") (rLenA X.K) := CallR.or call_len call_lenRd
theorem good_len : GoodF K (rLenA K) sLen := by
  intro S M H xs ds Qd Q ok r q k
  match ds, q with
  | [d], q =>
    obtain ⟨x, rfl, rx⟩ := r.one'
    have other : ((∃ xs, viewL M d = some xs ∧ Qd (.int xs.length) M) ∨ ∃ kvs, viewD M d = some kvs ∧ Qd (.int kvs.length) M) → rLenA K [x] H Q := by
      rintro (⟨ys, h1, q⟩ | ⟨kvs, h1, q⟩)
      · obtain ⟨a, us, rfl, e1, r1⟩ := view_rep ok rx h1
        exact .inl ⟨_, ys.length, rfl, .inl ⟨us, sq_of e1, r1.length.symm⟩, k.here ok q rfl⟩
      · obtain ⟨a, vs, rfl, rd, rk⟩ := viewD_rep ok rx h1
        refine .inr ⟨a, vs, rfl, rd, ?_⟩
        rw [rk.length]
        exact k.here ok q rfl
    cases d with
    | tup ys =>
      obtain ⟨a, us, rfl, e1, r1⟩ := tup_rep ok rx
      exact .inl ⟨_, ys.length, rfl, .inr ⟨us, e1, r1.length.symm⟩, k.here ok q rfl⟩
    | str z => exact .inl ⟨x, z.length, rfl, by rw [rx.1]; exact ⟨sz_of q.1, rfl⟩, k.here ok q.2 rfl⟩
    | scr ns =>
      obtain ⟨a, rfl, hq⟩ := rx
      exact .inl ⟨_, ns.length, rfl, .inl ⟨_, ex_l ok.ex hq, by rw [List.length_map]⟩, k.here ok q rfl⟩
    | _ => exact other q
theorem repL_bls {S : Hp} : ∀ {bs : List Bool} {xs : List V}, RepL K S (bs.map D.bl) xs → xs = bs.map V.bl
  | [], _, h => h
  | b :: bs, _, ⟨x, r, e1, h1, h2⟩ => by rw [e1, show x = V.bl b from h1, repL_bls h2]; rfl
theorem repL_ints {S : Hp} : ∀ {bs : List Int} {xs : List V}, RepL K S (bs.map D.int) xs → xs = bs.map V.int
  | [], _, h => h
  | b :: bs, _, ⟨x, r, e1, h1, h2⟩ => by rw [e1, show x = V.int b from h1, repL_ints h2]; rfl
theorem repL_strs {S : Hp} : ∀ {bs : List Str} {xs : List V}, RepL K S (bs.map D.str) xs → xs = bs.map V.str
  | [], _, h => h
  | b :: bs, _, ⟨x, r, e1, h1, h2⟩ => by rw [e1, show x = V.str b from h1.1, repL_strs h2]; rfl
def asBl : D → Option Bool
  | .bl b => some b
  | _ => none
def asInt : D → Option Int
  | .int b => some b
  | _ => none
def asStr : D → Option Str
  | .str b => some b
  | _ => none
def sAll : OpN := fun ds M Q => match ds with
  | [d] => ∃ bs : List Bool, viewL M d = some (bs.map D.bl) ∧ Q (.bl (bs.all id)) M
  | _ => False
def sAny : OpN := fun ds M Q => match ds with
  | [d] => ∃ bs : List Bool, viewL M d = some (bs.map D.bl) ∧ Q (.bl (bs.any id)) M
  | _ => False
def sSum : OpN := fun ds M Q => match ds with
  | [d] => ∃ bs : List Int, viewL M d = some (bs.map D.int) ∧ Q (.int bs.sum) M
  | _ => False
theorem good_all : GoodF K (rAll K) sAll := by
  intro S M H xs ds Qd Q ok r q k
  match ds, q with
  | [d], ⟨bs, h1, q⟩ =>
    obtain ⟨x, rfl, rx⟩ := r.one'
    obtain ⟨a, us, rfl, e1, r1⟩ := view_rep ok rx h1
    rw [repL_bls r1] at e1
    exact ⟨a, bs, rfl, sq_of e1, k.here ok q rfl⟩
theorem good_any : GoodF K (rAny K) sAny := by
  intro S M H xs ds Qd Q ok r q k
  match ds, q with
  | [d], ⟨bs, h1, q⟩ =>
    obtain ⟨x, rfl, rx⟩ := r.one'
    obtain ⟨a, us, rfl, e1, r1⟩ := view_rep ok rx h1
    rw [repL_bls r1] at e1
    exact ⟨a, bs, rfl, sq_of e1, k.here ok q rfl⟩
theorem good_sum : GoodF K (rSum K) sSum := by
  intro S M H xs ds Qd Q ok r q k
  match ds, q with
  | [d], ⟨bs, h1, q⟩ =>
    obtain ⟨x, rfl, rx⟩ := r.one'
    obtain ⟨a, us, rfl, e1, r1⟩ := view_rep ok rx h1
    rw [repL_ints r1] at e1
    exact ⟨a, bs, rfl, sq_of e1, k.here ok q rfl⟩
/-- tuple(..) of a list, of a tuple -/
@[simp ↓] def sTuple : OpN := fun ds M Q => match ds with
  | [d] => (match d with
    | .tup xs => Q (.tup xs) M
    | d => ∃ xs, viewL M d = some xs ∧ Q (.tup xs) M)
  | _ => False
abbrev rTuple (K : PySem.W.Frag) : List V → Hp → VK → Prop := fun xs H Q => ∃ p ys, xs = [.ref p] ∧ ((SqL K H p ys ∧ ∀ l, H l = none → Q (.ref l) (upd H l (.tup ys))) ∨ (SqT K H p ys ∧ Q (.ref p) H))
theorem good_tuple : GoodF K (rTuple K) sTuple := by
  intro S M H xs ds Qd Q ok r q k
  match ds, q with
  | [d], q =>
    obtain ⟨x, rfl, rx⟩ := r.one'
    have other : (∃ xs, viewL M d = some xs ∧ Qd (.tup xs) M) → rTuple K [x] H Q := by
      rintro ⟨ys, h1, q⟩
      obtain ⟨a, us, rfl, e1, r1⟩ := view_rep ok rx h1
      exact ⟨a, us, rfl, .inl ⟨sq_of e1, fun l hl => k.tup ok hl q r1⟩⟩
    cases d with
    | tup ys =>
      obtain ⟨a, us, rfl, e1, r1⟩ := rx
      exact ⟨a, us, rfl, .inr ⟨ex_t ok.ex e1, k.here ok q ⟨a, us, rfl, e1, r1⟩⟩⟩
    | _ => exact other q
/-- list(..) of a list, of a tuple, of a dict's keys -/
def kD : Key → D
  | .inl i => .int i
  | .inr x => .str x
@[simp ↓] def sList (own : Bool) : OpN := fun ds M Q => match ds with
  | [d] => (match d with
    | .tup xs => fresh own xs M Q
    | d => ∃ xs, viewL M d = some xs ∧ fresh own xs M Q)
  | _ => False
abbrev rListA (K : PySem.W.Frag) : List V → Hp → VK → Prop := fun xs H Q => ∃ p ys, xs = [.ref p] ∧ (SqL K H p ys ∨ SqT K H p ys) ∧ ∀ l, H l = none → Q (.ref l) (upd H l (.lst ys))
theorem good_list {own : Bool} : GoodF K (rListA K) (sList own) := by
  intro S M H xs ds Qd Q ok r q k
  match ds, q with
  | [d], q =>
    obtain ⟨x, rfl, rx⟩ := r.one'
    have other : (∃ xs, viewL M d = some xs ∧ fresh own xs M Qd) → rListA K [x] H Q := by
      rintro ⟨ys, h1, q⟩
      obtain ⟨a, us, rfl, e1, r1⟩ := view_rep ok rx h1
      exact ⟨a, us, rfl, .inl (sq_of e1), fun l hl => k.fresh ok hl q r1⟩
    cases d with
    | tup ys =>
      obtain ⟨a, us, rfl, e1, r1⟩ := tup_rep ok rx
      exact ⟨a, us, rfl, .inr e1, fun l hl => k.fresh ok hl q r1⟩
    | _ => exact other q
@[simp ↓] def sMin2 : OpN := fun ds M Q => match ds with
  | [.int i, .int j] => Q (.int (if j < i then j else i)) M
  | _ => False
@[simp ↓] def sMax2 : OpN := fun ds M Q => match ds with
  | [.int i, .int j] => Q (.int (if j > i then j else i)) M
  | _ => False
theorem good_min2 : GoodF K (fun xs H Q => ∃ i j, xs = [.int i, .int j] ∧ Q (.int (if j < i then j else i)) H) sMin2 := by
  intro S M H xs ds Qd Q ok r q k
  match ds, q with
  | [.int i, .int j], q =>
    obtain ⟨x, y, rfl, rfl, rfl⟩ := r.two
    exact ⟨i, j, rfl, k.here ok q rfl⟩
theorem good_max2 : GoodF K (fun xs H Q => ∃ i j, xs = [.int i, .int j] ∧ Q (.int (if j > i then j else i)) H) sMax2 := by
  intro S M H xs ds Qd Q ok r q k
  match ds, q with
  | [.int i, .int j], q =>
    obtain ⟨x, y, rfl, rfl, rfl⟩ := r.two
    exact ⟨i, j, rfl, k.here ok q rfl⟩
@[simp ↓] def sIntF : OpN := fun ds M Q => match ds with
  | [.int i] => Q (.int i) M
  | [.bl b] => Q (.int (if b then 1 else 0)) M
  | _ => False
theorem good_intF : GoodF K (fun xs H Q => (∃ i, xs = [.int i] ∧ Q (.int i) H) ∨ ∃ k, xs = [.bl k] ∧ Q (.int (if k then 1 else 0)) H) sIntF := by
  intro S M H xs ds Qd Q ok r q k
  match ds, q with
  | [.int i], q =>
    obtain ⟨x, rfl, rfl⟩ := r.one'
    exact .inl ⟨i, rfl, k.here ok q rfl⟩
  | [.bl i], q =>
    obtain ⟨x, rfl, rfl⟩ := r.one'
    exact .inr ⟨i, rfl, k.here ok q (by cases i <;> rfl)⟩
end
end FL
set_option Elab.async false
set_option linter.all false
set_option maxRecDepth 100000
set_option maxHeartbeats 4000000
namespace FL
open PySem PySem.Spec PyProof.Rows L2 Evl
/-! ### statements -/
inductive Out where
  | nx (env : Sl) (M : Mem) | bk (env : Sl) (M : Mem) | ct (env : Sl) (M : Mem) | rt (d : D) (M : Mem) | xx (c : Str) (env : Sl) (M : Mem)
abbrev SS := Sl → Mem → (Out → Prop) → Prop
def HOut (K : PySem.W.Frag) (E : WK) (Dn : Ends) (S : Hp) : Out → Prop
  | .nx env M => ∀ σ S2 H2, Ex S S2 → Ok K S2 M H2 → EnvR K S2 env σ → Dn.nx σ H2
  | .bk env M => ∀ σ S2 H2, Ex S S2 → Ok K S2 M H2 → EnvR K S2 env σ → Dn.bk σ H2
  | .ct env M => ∀ σ S2 H2, Ex S S2 → Ok K S2 M H2 → EnvR K S2 env σ → Dn.ct σ H2
  | .rt d M => ∀ v S2 H2, Ex S S2 → Ok K S2 M H2 → Rep K S2 d v → Dn.rt v H2
  | .xx c env M => ∀ σ S2 H2, Ex S S2 → OkX K c → Ok K S2 M H2 → EnvR K S2 env σ → E σ (exv K c) none H2
theorem HOut.mono {K : PySem.W.Frag} {E : WK} {Dn : Ends} {S S1 : Hp} (e : Ex S S1) {o : Out} (h : HOut K E Dn S o) : HOut K E Dn S1 o := by
  cases o <;> exact fun a S2 H2 e2 => h a S2 H2 (e.trans e2)
def tS (K : PySem.W.Frag) (E : WK) (w : SS) : TS := fun Dn σ H => ∃ S env M P, Ok K S M H ∧ EnvR K S env σ ∧ w env M P ∧ ∀ o, P o → HOut K E Dn S o
abbrev SW (X : Cx) (E : WK) (st : Stmt) (w : SS) : Prop := PS X st (tS X.K E w)
abbrev BW (X : Cx) (E : WK) (sts : List Stmt) (w : SS) : Prop := PSs X sts (tS X.K E w)
@[simp ↓] def qX (env : Sl) (P : Out → Prop) : QX := fun c M => P (.xx c env M)
@[simp ↓] def sNil : SS := fun env M P => P (.nx env M)
/-- behind a statement: the rest, or what ended it -/
def thenK (w : SS) (P : Out → Prop) (o : Out) : Prop := match o with
  | .nx e m => w e m P
  | o => P o
@[simp ↓] theorem thenK_nx {w : SS} {P : Out → Prop} {e : Sl} {m : Mem} : thenK w P (.nx e m) = w e m P := rfl
@[simp ↓] theorem thenK_rt {w : SS} {P : Out → Prop} {e : D} {m : Mem} : thenK w P (.rt e m) = P (.rt e m) := rfl
@[simp ↓] theorem thenK_bk {w : SS} {P : Out → Prop} {e : Sl} {m : Mem} : thenK w P (.bk e m) = P (.bk e m) := rfl
@[simp ↓] theorem thenK_ct {w : SS} {P : Out → Prop} {e : Sl} {m : Mem} : thenK w P (.ct e m) = P (.ct e m) := rfl
@[simp ↓] theorem thenK_xx {w : SS} {P : Out → Prop} {c : Str} {e : Sl} {m : Mem} : thenK w P (.xx c e m) = P (.xx c e m) := rfl
@[simp ↓] def sSeq (w1 w2 : SS) : SS := fun env M P => w1 env M (thenK w2 P)
def retK (P : Out → Prop) : QE := fun d M1 => P (.rt d M1)
@[simp ↓] theorem retK_ap {P : Out → Prop} {d : D} {m : Mem} : retK P d m = P (.rt d m) := rfl
def expK (env : Sl) (P : Out → Prop) : QE := fun _ M1 => P (.nx env M1)
@[simp ↓] theorem expK_ap {env : Sl} {P : Out → Prop} {d : D} {m : Mem} : expK env P d m = P (.nx env m) := rfl
@[simp ↓] def sBot : SS := fun _ _ _ => False
section
variable {X : Cx} {E : WK} {e c a : Expr} {es : List Expr} {st : Stmt} {rest body orelse : List Stmt} {w w1 w2 : SS} {we wo : SE} {wc : ST} {pos : Pos}
theorem sw_bot : SW X E st sBot := ⟨fun _ _ _ _ _ _ ⟨_, _, _, _, _, _, z, _⟩ => z.elim⟩
theorem kX_of {Dn : Ends} {S : Hp} {σ : L2.St} {env : Sl} {P : Out → Prop} (k : ∀ o, P o → HOut X.K E Dn S o) (en : EnvR X.K S env σ) : kX X.K E S σ (qX env P) :=
  fun c S2 M2 H2 p e ox ok => k _ p σ S2 H2 e ox ok (en.mono e)
theorem bw_nil : BW X E [] sNil := PSs.imp pss_nil fun Dn σ H ⟨S, env, M, P, ok, en, q, k⟩ => k _ q σ S H (Ex.refl _) ok en
theorem bw_cons (h1 : SW X E st w1) (h2 : BW X E rest w2) : BW X E (st :: rest) (sSeq w1 w2) := by
  refine PSs.imp (pss_cons h1 h2) fun Dn σ H ⟨S, env, M, P, ok, en, q, k⟩ => ⟨S, env, M, _, ok, en, q, fun o p => ?_⟩
  cases o with
  | nx e m => exact fun σ2 S2 H2 e2 ok2 en2 => ⟨S2, e, m, P, ok2, en2, p, fun o' p' => (k o' p').mono e2⟩
  | bk e m => exact k _ p
  | ct e m => exact k _ p
  | rt d m => exact k _ p
  | xx c e m => exact k _ p
@[simp ↓] def sRet (we : SE) : SS := fun env M P => we env M (retK P) (qX env P)
theorem sw_ret (h : EW X E e we) : SW X E (.Return (some e) pos) (sRet we) :=
  PS.imp (ps_ret h) fun Dn σ H ⟨S, env, M, P, ok, en, q, k⟩ => ⟨S, env, M, _, _, ok, en, q, fun d v S2 M2 H2 p e2 ok2 r => k _ p v S2 H2 e2 ok2 r, kX_of k en⟩
@[simp ↓] def sRetN : SS := fun _ M P => P (.rt .non M)
theorem sw_retN : SW X E (.Return none pos) sRetN := PS.imp ps_retN fun Dn σ H ⟨S, env, M, P, ok, en, q, k⟩ => k _ q .non S H (Ex.refl _) ok rfl
@[simp ↓] def sPass : SS := fun env M P => P (.nx env M)
theorem sw_pass : SW X E (.Pass pos) sPass := PS.imp ps_pass fun Dn σ H ⟨S, env, M, P, ok, en, q, k⟩ => k _ q σ S H (Ex.refl _) ok en
@[simp ↓] def sBreak : SS := fun env M P => P (.bk env M)
theorem sw_break : SW X E (.Break pos) sBreak := PS.imp ps_break fun Dn σ H ⟨S, env, M, P, ok, en, q, k⟩ => k _ q σ S H (Ex.refl _) ok en
@[simp ↓] def sCont : SS := fun env M P => P (.ct env M)
theorem sw_cont : SW X E (.Continue pos) sCont := PS.imp ps_continue fun Dn σ H ⟨S, env, M, P, ok, en, q, k⟩ => k _ q σ S H (Ex.refl _) ok en
@[simp ↓] def sExpr (we : SE) : SS := fun env M P => we env M (expK env P) (qX env P)
theorem sw_expr (h : EW X E e we) (hs : swapsWith e none pos.line X.env = Pure.pure false) : SW X E (.Expr e pos) (sExpr we) :=
  PS.imp (ps_expr h hs) fun Dn σ H ⟨S, env, M, P, ok, en, q, k⟩ => ⟨S, env, M, _, _, ok, en, q, fun d v S2 M2 H2 p e2 ok2 r => k _ p σ S2 H2 e2 ok2 (en.mono e2), kX_of k en⟩
@[simp ↓] def sIf (wc : ST) (w1 w2 : SS) : SS := fun env M P => wc env M (fun b M1 => if b = true then w1 env M1 P else w2 env M1 P) (qX env P)
theorem sw_if (hc : TW X E c wc) (h1 : BW X E body w1) (h2 : BW X E orelse w2) : SW X E (.If c body orelse pos) (sIf wc w1 w2) := by
  refine PS.imp (ps_if hc h1 h2) fun Dn σ H ⟨S, env, M, P, ok, en, q, k⟩ => ⟨S, env, M, _, _, ok, en, q, fun b S2 M2 H2 p e2 ok2 => ?_, kX_of k en⟩
  cases b with
  | true => exact iteT ⟨S2, env, M2, P, ok2, en.mono e2, p, fun o p' => (k o p').mono e2⟩
  | false => exact iteF ⟨S2, env, M2, P, ok2, en.mono e2, p, fun o p' => (k o p').mono e2⟩
/-! ### assignments -/
abbrev Asg := Sl → D → Mem → (Sl → Mem → Prop) → QX → Prop
/-- what a target makes of a value -/
def tG (K : PySem.W.Frag) (E : WK) (g : Asg) : TG := fun v σ H Q => ∃ S env M d Qs Qx, Ok K S M H ∧ EnvR K S env σ ∧ Rep K S d v ∧ g env d M Qs Qx ∧ (∀ env2 M2 σ2 S2 H2, Qs env2 M2 → Ex S S2 → Ok K S2 M2 H2 → EnvR K S2 env2 σ2 → Q σ2 H2) ∧ kX K E S σ Qx
abbrev GW (X : Cx) (E : WK) (tg : Expr) (g : Asg) : Prop := PG X tg (tG X.K E g)
theorem PG.imp {tg : Expr} {t t' : TG} (h : PG X tg t) (w : ∀ v σ H Q, t' v σ H Q → t v σ H Q) : PG X tg t' := ⟨fun pins s σ H v u Q I r q => h.run pins s σ H v u Q I r (w v σ H Q q)⟩
@[simp ↓] def gSlot (i : Nat) : Asg := fun env d M Q _ => Q (env.set i (some d)) M
theorem gw_slot {i : Nat} {tg : Expr} (h : PG X tg (gName i)) : GW X E tg (gSlot i) :=
  PG.imp h fun v σ H Q ⟨S, env, M, d, Qs, Qx, ok, en, r, q, k, x⟩ => k _ _ _ S H q (Ex.refl _) ok (en.setD r i)
/-- a, b, .. = a tuple -/
@[simp ↓] def gSlots : List Nat → List D → Sl → Mem → (Sl → Mem → Prop) → Prop
  | [], ds, env, M, Q => ds = [] ∧ Q env M
  | i :: r, ds, env, M, Q => match ds with
    | d :: t => gSlots r t (env.set i (some d)) M Q
    | [] => False
@[simp ↓] def gTuple (is : List Nat) : Asg := fun env d M Q _ => match d with
  | .tup ds => gSlots is ds env M Q
  | _ => False
def gNames : List Nat → TGs
  | [] => gNil
  | i :: r => gCons (gName i) (gNames r)
theorem gSlots_len : ∀ {is : List Nat} {ds : List D} {env : Sl} {M : Mem} {Q : Sl → Mem → Prop}, gSlots is ds env M Q → ds.length = is.length
  | [], ds, _, _, _, h => by rw [h.1]; rfl
  | i :: r, [], _, _, _, h => h.elim
  | i :: r, d :: t, _, _, _, h => by rw [List.length_cons, List.length_cons, gSlots_len (is := r) h]
theorem gNames_read {K : PySem.W.Frag} {S H : Hp} {Qs : Sl → Mem → Prop} {Q : L2.St → Hp → Prop} {M : Mem} (ok : Ok K S M H) (k : ∀ env2 M2 σ2 S2 H2, Qs env2 M2 → Ex S S2 → Ok K S2 M2 H2 → EnvR K S2 env2 σ2 → Q σ2 H2) :
    ∀ {is : List Nat} {ds : List D} {vs : List V} {env : Sl} {σ : L2.St}, EnvR K S env σ → RepL K S ds vs → gSlots is ds env M Qs → gNames is vs σ H Q
  | [], ds, vs, env, σ, en, r, q => by
    obtain ⟨rfl, q⟩ := q
    exact ⟨r, k _ _ _ S H q (Ex.refl _) ok en⟩
  | i :: is, [], vs, env, σ, en, r, q => q.elim
  | i :: is, d :: t, vs, env, σ, en, ⟨x, r, e, h1, h2⟩, q => ⟨x, r, e, gNames_read ok k (en.setD h1 i) h2 q⟩
theorem gw_tuple {is : List Nat} {tg : Expr} (h : PG X tg (gTup X.K is.length (gNames is))) : GW X E tg (gTuple is) :=
  PG.imp h fun v σ H Q ⟨S, env, M, d, Qs, Qx, ok, en, r, q, k, x⟩ => by
    cases d <;> try exact q.elim
    obtain ⟨a, xs, rfl, hq, rl⟩ := r
    exact ⟨a, xs, rfl, ex_t ok.ex hq, by rw [rl.length]; exact gSlots_len q, gNames_read ok k en rl q⟩
def asgK (g : Asg) (env : Sl) (P : Out → Prop) : QE := fun d M1 => g env d M1 (fun env2 M2 => P (.nx env2 M2)) (qX env P)
@[simp ↓] theorem asgK_ap {g : Asg} {env : Sl} {P : Out → Prop} {d : D} {m : Mem} : asgK g env P d m = g env d m (fun env2 M2 => P (.nx env2 M2)) (qX env P) := rfl
@[simp ↓] def sAsg (g : Asg) (we : SE) : SS := fun env M P => we env M (asgK g env P) (qX env P)
theorem sAsg_read {tg : Expr} {te : TE} {g : Asg} (h : PS X st (tAsg te (tG X.K E g))) (w : ∀ σ H Q, tE X.K E we σ H Q → te σ H Q) : SW X E st (sAsg g we) :=
  PS.imp h fun Dn σ H ⟨S, env, M, P, ok, en, q, k⟩ => w _ _ _ ⟨S, env, M, _, _, ok, en, q, fun d v S2 M2 H2 p e2 ok2 r =>
    ⟨S2, env, M2, d, _, _, ok2, en.mono e2, r, p, fun env3 M3 σ3 S3 H3 p3 e3 ok3 en3 => k _ p3 σ3 S3 H3 (e2.trans e3) ok3 en3, (kX_of k en).mono e2⟩, kX_of k en⟩
theorem sw_asg {tg : Expr} {g : Asg} (he : EW X E e we) (hg : GW X E tg g) (hs : swapsWithSole [tg] e pos.line X.env = Pure.pure false) (hw : swappedStores [tg] e X.env = Pure.pure none) (h1 : (assignEach [tg] X.env).map (·.2) = [assign tg X.env]) : SW X E (.Assign [tg] e pos) (sAsg g we) :=
  sAsg_read (tg := tg) (ps_asg he hg hs hw h1) fun _ _ _ z => z

/-! ### for -/
/-- what is gone through; C: what must stay true of the memory -/
structure WalkD (K : PySem.W.Frag) (S2 : Hp) (C : Mem → Prop) (J : It) (ds : List D) : Prop where
  ex : ∃ (G : Hp → Prop) (Y : Nat → Hp → V → Hp → Prop), Walk J ds.length G Y ∧ (∀ S' M' H, Ex S2 S' → Ok K S' M' H → C M' → G H) ∧
    ∀ i S' M' H x H', i < ds.length → Ex S2 S' → Ok K S' M' H → C M' → Y i H x H' → ∃ S3 d, ds[i]? = some d ∧ Ex S' S3 ∧ Ok K S3 M' H' ∧ Ex H H' ∧ Rep K S3 d x
abbrev QI := List D → (Mem → Prop) → Mem → Prop
abbrev SI := Sl → Mem → QI → QX → Prop
def tI (K : PySem.W.Frag) (E : WK) (w : SI) : TI := fun σ H R => ∃ S env M Qd Qx, Ok K S M H ∧ EnvR K S env σ ∧ w env M Qd Qx ∧ (∀ ds C J S2 M2 H2, Qd ds C M2 → Ex S S2 → Ok K S2 M2 H2 → WalkD K S2 C J ds → R J H2) ∧ kX K E S σ Qx
abbrev IW (X : Cx) (E : WK) (tg e : Expr) (w : SI) : Prop := PI X tg e (tI X.K E w)
def loopW (g : Asg) (body : SS) (C : Mem → Prop) : List D → Sl → Mem → (Out → Prop) → Prop
  | [], env, M, P => C M ∧ P (.nx env M)
  | d :: ds, env, M, P => C M ∧ g env d M (fun env2 M2 => body env2 M2 fun o => match o with
    | .nx e m => loopW g body C ds e m P
    | .ct e m => loopW g body C ds e m P
    | .bk e m => P (.nx e m)
    | o => P o) (qX env P)
theorem loopW.has {g : Asg} {body : SS} {C : Mem → Prop} : ∀ {ds : List D} {env : Sl} {M : Mem} {P : Out → Prop}, loopW g body C ds env M P → C M
  | [], _, _, _, h => h.1
  | _ :: _, _, _, _, h => h.1
@[simp ↓] def sFor (wi : SI) (g : Asg) (body : SS) : SS := fun env M P => wi env M (fun ds C M1 => loopW g body C ds env M1 P) (qX env P)
theorem sw_for {tg iter : Expr} {g : Asg} {wi : SI} (hp : PassesOwn (model X.prog X.w) X.A X.env X.xe) (hc : X.calm = true) (hi : IW X E tg iter wi) (hg : GW X E tg g) (hb : BW X E body w) (hs : ∀ x, foldedSetIterable iter X.env x = Pure.pure x) :
    SW X E (.For tg iter body [] pos) (sFor wi g w) := by
  refine PS.imp (ps_for hp hc hi hg hb hs) fun Dn σ H ⟨S, env, M, P, ok, en, q, k⟩ => ⟨S, env, M, _, _, ok, en, q, fun ds C J S1 M1 H1 lp e1 ok1 wd => ?_, kX_of k en⟩
  obtain ⟨G, Y, wk, hG, hY⟩ := wd.ex
  have turnEq : ∀ i d, ds[i]? = some d → ds.drop i = d :: ds.drop (i + 1) := fun i d h => by
    obtain ⟨hlt, e⟩ := List.getElem?_eq_some_iff.mp h
    rw [← e]; exact List.drop_eq_getElem_cons hlt
  refine for_it wk (fun i σ' H' => ∃ S' env' M', Ex S1 S' ∧ Ok X.K S' M' H' ∧ EnvR X.K S' env' σ' ∧ loopW g w C (ds.drop i) env' M' P) ⟨S1, env, M1, Ex.refl _, ok1, en.mono e1, by rw [List.drop_zero]; exact lp⟩
    (fun i σ' H' hi ⟨S', env', M', e', ok', en', lp'⟩ => hG S' M' H' e' ok' lp'.has) ?_ ?_
  · rintro i x σ2 H2 H3 hi ⟨S', env', M', e', ok', en', lp'⟩ y
    obtain ⟨S3, d, hd, e3, ok3, _, rd⟩ := hY i S' M' H2 x H3 hi e' ok' lp'.has y
    rw [turnEq i d hd] at lp'
    refine ⟨S3, env', M', d, _, _, ok3, en'.mono e3, rd, lp'.2, fun env4 M4 σ4 S4 H4 q4 e4 ok4 en4 => ?_, kX_of (fun o p => (k o p).mono (e1.trans (e'.trans e3))) (en'.mono e3)⟩
    refine ⟨S4, env4, M4, _, ok4, en4, q4, fun o po => ?_⟩
    cases o with
    | nx e m => exact fun σ5 S5 H5 e5 ok5 en5 => ⟨S5, e, m, ((e'.trans e3).trans e4).trans e5, ok5, en5, po⟩
    | ct e m => exact fun σ5 S5 H5 e5 ok5 en5 => ⟨S5, e, m, ((e'.trans e3).trans e4).trans e5, ok5, en5, po⟩
    | bk e m => exact fun σ5 S5 H5 e5 ok5 en5 => k _ po σ5 S5 H5 ((((e1.trans e').trans e3).trans e4).trans e5) ok5 en5
    | rt d m => exact (k _ po).mono (((e1.trans e').trans e3).trans e4)
    | xx c e m => exact (k _ po).mono (((e1.trans e').trans e3).trans e4)
  · rintro σ2 H2 ⟨S', env', M', e', ok', en', lp'⟩
    rw [List.drop_length] at lp'
    exact k _ lp'.2 σ2 S' H2 (e1.trans e') ok' en'
end
end FL
set_option Elab.async false
set_option linter.all false
set_option maxRecDepth 100000
set_option maxHeartbeats 4000000
namespace FL
open PySem PySem.Spec PyProof.Rows L2 Evl
/-! ### what is gone through, by values -/
def ItR (X : Cx) (tg : Expr) (r : V → Hp → (It → Hp → Prop) → Prop) : Prop := ∀ (pins : List (Addr × Obj)) (s : Shared) (σ : L2.St) (H : Hp) (x : V) (v : Value) (R : It → Hp → Prop), Inv X pins σ H s → RelV x v → r x H R →
  wpAny (model X.prog X.w) X.A (pyIter v) (PIE X pins σ tg R) X.xe s
section
variable {X : Cx} {tg e : Expr}
theorem ItR.or {r r' : V → Hp → (It → Hp → Prop) → Prop} (h : ItR X tg r) (h' : ItR X tg r') : ItR X tg (fun x H R => r x H R ∨ r' x H R) := fun pins s σ H x v R I rx q => q.elim (h pins s σ H x v R I rx) (h' pins s σ H x v R I rx)
theorem itL : ItR X tg (fun x H R => ∃ a, x = .ref a ∧ (∃ xs, SqL X.K H a xs) ∧ R (Itl X.K a) H) := by
  rintro pins s1 σ H1 x v R I1 r1 ⟨a, rfl, ⟨xs, hq⟩, q⟩
  cases r1
  obtain ⟨its, rv, p, hz⟩ := I1.list hq
  refine wpAny_pyIter_list p.isList ?_
  refine ⟨s1.heap.objs.size, [s1.heap.objs.size], _, _, H1, rfl, I1.kept (t' := s1.toks) fun b o e => Heap.get?_push_of_some _ e, turn_list a _, ⟨_, Heap.get?_push_size _ rfl, rfl, rfl⟩, fun b hb => ?_, q⟩
  have e : b = s1.heap.objs.size := by simpa using hb
  subst e
  exact I1.fpOk (Nat.le_refl _) (I1.hok.fresh (Nat.le_refl _))
theorem itT : ItR X tg (fun x H R => ∃ a, x = .ref a ∧ (∃ xs, SqT X.K H a xs) ∧ R (Itt X.K a) H) := by
  rintro pins s1 σ H1 x v R I1 r1 ⟨a, rfl, ⟨xs, hq⟩, q⟩
  cases r1
  obtain ⟨its, rv, p, hz⟩ := I1.tuple hq
  refine wpAny_pyIter_tuple (show s1.heap.IsTuple a its.toArray from p) ?_
  refine ⟨s1.heap.objs.size, [s1.heap.objs.size], _, _, H1, rfl, I1.kept (t' := s1.toks) fun b o e => Heap.get?_push_of_some _ e, turn_tuple a _, ⟨_, Heap.get?_push_size _ rfl, rfl, rfl⟩, fun b hb => ?_, q⟩
  have e : b = s1.heap.objs.size := by simpa using hb
  subst e
  exact I1.fpOk (Nat.le_refl _) (I1.hok.fresh (Nat.le_refl _))
theorem itS : ItR X tg (fun x H R => ∃ z, x = .str z ∧ R (Its z) H) := by
  rintro pins s1 σ H1 x v R I1 r1 ⟨z, rfl, q⟩
  obtain ⟨t, rfl⟩ := r1
  cases ha : z.cps.all (· < 128)
  · exact wpAny_pyIter_wide ha (pi_one (tk := s1.toks) I1 _ (turn_str _ z t "str_iterator" (.inr rfl)) ⟨_, Heap.get?_push_size _ rfl, rfl, rfl⟩ q)
  · exact wpAny_pyIter_ascii ha (pi_one (tk := s1.toks) I1 _ (turn_str _ z t "str_ascii_iterator" (.inl rfl)) ⟨_, Heap.get?_push_size _ rfl, rfl, rfl⟩ q)
theorem itK : ItR X tg (fun x H R => ∃ d o kvs, x = .ref d ∧ H d = some (.frz o (.dK kvs)) ∧ R (Itk d o kvs) H) := by
  rintro pins s1 σ H1 x u R I1 rx ⟨d, o, kvs, rfl, hd, q⟩
  obtain rfl : u = Value.ref d := rx
  obtain ⟨hs, hgd, hx, es, ep, vs, hdt, hsz, kv, hm⟩ := I1.frzK hd
  refine iter_keys hs hgd hx hdt (pi_one (tk := s1.toks) I1 _ (turn_keys _ hdt) ⟨_, Heap.get?_push_size _ rfl, rfl, ?_⟩ q)
  rw [hsz] <;> rfl
abbrev rIt (K : PySem.W.Frag) : V → Hp → (It → Hp → Prop) → Prop := fun x H R => (∃ a, x = .ref a ∧ (∃ xs, SqL K H a xs) ∧ R (Itl K a) H) ∨ (∃ a, x = .ref a ∧ (∃ xs, SqT K H a xs) ∧ R (Itt K a) H) ∨ (∃ z, x = .str z ∧ R (Its z) H) ∨ (∃ d o kvs, x = .ref d ∧ H d = some (.frz o (.dK kvs)) ∧ R (Itk d o kvs) H)
theorem itA : ItR X tg (rIt X.K) := itL.or (itT.or (itS.or itK))
theorem pi_val {te : TE} {r : V → Hp → (It → Hp → Prop) → Prop} (h : PE X e te) (g : ItR X tg r) : PI X tg e (fun σ H R => te σ H fun x H1 => r x H1 R) := by
  refine ⟨fun pins s σ H R I q => ?_⟩
  exact thn (h.run pins s σ H _ I q) fun v s1 ⟨x, H1, I1, r1, q1⟩ => g pins s1 σ H1 x v R I1 r1 q1
end
def signsD (z : Str) : List D := z.cps.toList.map fun c => D.str ⟨#[c]⟩
/-- whole numbers lo, lo + 1, .. -/
def upFrom (lo : Int) (n : Nat) : List D := (List.range n).map fun i => D.int (lo + (i : Nat))
theorem upFrom_len (lo : Int) (n : Nat) : (upFrom lo n).length = n := by unfold upFrom; simp
theorem upFrom_get {lo : Int} {n i : Nat} (h : i < n) : (upFrom lo n)[i]? = some (.int (lo + (i : Nat))) := by unfold upFrom; simp [h]
@[simp ↓] def wIt (w : SE) : SI := fun env M Q X => w env M (fun d M1 => match d with
  | .tup ds => Q ds (fun _ => True) M1
  | .str z => Q (signsD z) (fun _ => True) M1
  | .lst ds => Q ds (fun _ => True) M1
  | .ptr a => (match M1 a with
    | some (.ml ds) => Q ds (fun M2 => M2 a = some (.ml ds)) M1
    | some (.lk kvs) => Q (kvs.map fun kv => kD kv.1) (fun M2 => M2 a = some (.lk kvs)) M1
    | _ => False)
  | _ => False) X
section
variable {K : PySem.W.Frag} {S2 H2 : Hp} {M : Mem}
theorem WalkD.at {C : Mem → Prop} {J : It} {ds : List D} {xs : List V} {G : Hp → Prop} (w : Walk J xs.length G (YAt xs)) (hG : ∀ S' M' H, Ex S2 S' → Ok K S' M' H → C M' → G H) (r : RepL K S2 ds xs) : WalkD K S2 C J ds := by
  have hl := r.length
  refine ⟨G, YAt xs, hl ▸ w, hG, fun i S' M' H x H' hi e1 ok _ y => ?_⟩
  obtain ⟨rfl, hx⟩ := y
  obtain ⟨d, hd, rd⟩ := r.get' hx
  exact ⟨S', d, hd, Ex.refl _, ok, Ex.refl _, rd.mono e1⟩
theorem RepKV.keys {α : Type} : ∀ {kvs : List (α × D)} {vs : List (α × V)}, RepKV K S2 kvs vs → vs.map (·.1) = kvs.map (·.1)
  | [], _, h => by rw [show _ = [] from h]; rfl
  | p :: r, _, ⟨x, t, e, _, h⟩ => by rw [e, List.map_cons, List.map_cons, RepKV.keys h]
theorem kD_rep {k : Key} (h : okK k) : Rep K S2 (kD k) (kV k) := by
  cases k with
  | inl i => exact rfl
  | inr x => exact ⟨rfl, h⟩
theorem strOk_at {z : Str} (h : PyData.strOk z = true) {c : Nat} {i : Nat} (hc : z.cps[i]? = some c) : PyData.strOk ⟨#[c]⟩ = true := by
  have hm : c ∈ z.cps := Array.mem_of_getElem? hc
  unfold PyData.strOk at *
  rw [Array.all_eq_true_iff_forall_mem] at *
  intro c' hc'
  simp at hc'
  subst hc'
  exact h _ hm
theorem walkD_range {C : Mem → Prop} (lo : Int) (n : Nat) : WalkD K S2 C (Itr lo n) (upFrom lo n) := by
  refine ⟨fun _ => True, YFn fun i => .int (lo + i), by rw [upFrom_len]; exact walk_range, fun _ _ _ _ _ _ => trivial, fun i S' M' H x H' hi e1 ok _ y => ?_⟩
  obtain ⟨rfl, rfl⟩ := y
  rw [upFrom_len] at hi
  exact ⟨S', _, upFrom_get hi, Ex.refl _, ok, Ex.refl _, rfl⟩
end
section
variable {X : Cx} {E : WK} {e a b tg : Expr} {wa wb : SE} {pos p tpos : Pos} {elts : List Expr} {kk : Nat}
theorem iw_it (h : EW X E e wa) : IW X E tg e (wIt wa) := by
  refine PI.imp (pi_val h itA) fun σ H R ⟨S, env, M, Qd, Qx, ok, en, q, k, x⟩ => ⟨S, env, M, _, Qx, ok, en, q, fun d v S1 M1 H1 q1 e1 ok1 r1 => ?_, x⟩
  cases d with
  | tup ds =>
    obtain ⟨a, xs, rfl, hq, rl⟩ := r1
    exact .inr (.inl ⟨a, rfl, ⟨xs, ex_t ok1.ex hq⟩, k ds _ _ S1 M1 H1 q1 e1 ok1 (WalkD.at walk_tup (fun S' M' H e ok' _ => ex_t (e.trans ok'.ex) hq) rl)⟩)
  | str z =>
    obtain ⟨rfl, hz⟩ := r1
    refine .inr (.inr (.inl ⟨z, rfl, k (signsD z) _ _ S1 M1 H1 q1 e1 ok1 ⟨fun _ => True, fun i H v H' => H' = H ∧ ∃ c, z.cps[i]? = some c ∧ v = .str ⟨#[c]⟩, ?_, fun _ _ _ _ _ _ => trivial, fun i S' M' H x H' hi e1 ok' _ y => ?_⟩⟩))
    · have e : (signsD z).length = z.cps.size := by unfold signsD; simp
      rw [e]; exact walk_str
    · obtain ⟨rfl, c, hc, rfl⟩ := y
      refine ⟨S', .str ⟨#[c]⟩, ?_, Ex.refl _, ok', Ex.refl _, rfl, strOk_at hz hc⟩
      unfold signsD
      rw [List.getElem?_map, Array.getElem?_toList, hc]
      rfl
  | lst ds =>
    obtain ⟨a, xs, rfl, hq, rl⟩ := r1
    exact .inl ⟨a, rfl, ⟨xs, sq_of (ok1.ex _ _ hq)⟩, k ds _ _ S1 M1 H1 q1 e1 ok1 (WalkD.at walk_list (fun S' M' H e ok' _ => sq_of (ok'.ex _ _ (e _ _ hq))) rl)⟩
  | ptr a =>
    obtain rfl : v = .ref a := r1
    cases hm : M1 a with
    | none => simp only [hm] at q1
    | some m =>
      cases m with
      | ml ds =>
        simp only [hm] at q1
        obtain ⟨hS, xs, hv, rl⟩ := ok1.own a _ hm
        have hl := rl.length
        refine .inl ⟨a, rfl, ⟨xs, sq_of hv⟩, k ds _ _ S1 M1 H1 q1 e1 ok1 ⟨fun H => ∃ ys, ys.length = ds.length ∧ SqL X.K H a ys, fun i H x H' => ∀ ys, SqL X.K H a ys → ys.length = ds.length → H' = H ∧ ys[i]? = some x, ?_, fun S' M' H e ok' c => ?_, fun i S' M' H x H' hi e ok' c y => ?_⟩⟩
        · exact ⟨fun i H hi ⟨ys, hl, q⟩ => ⟨ys, ys[i], q, by simp [hl, hi]⟩, fun H ⟨ys, hl, q⟩ => ⟨ys, q, by omega⟩, fun i H x H' hi ⟨ys, hl, q⟩ y zs q2 hl2 => ⟨y.1, y.2 zs q2⟩⟩
        · obtain ⟨_, ys, hv', rl'⟩ := ok'.own a _ c
          exact ⟨ys, rl'.length, sq_of hv'⟩
        · obtain ⟨_, ys, hv', rl'⟩ := ok'.own a _ c
          obtain ⟨rfl, hx⟩ := y ys (sq_of hv') rl'.length
          obtain ⟨d, hd, rd⟩ := rl'.get' hx
          exact ⟨S', d, hd, Ex.refl _, ok', Ex.refl _, rd⟩
      | lk kvs =>
        simp only [hm] at q1
        obtain ⟨od, vs, hS, hH, r, hk⟩ := ok1.own a _ hm
        have hl : (kvs.map fun kv => kD kv.1).length = vs.length := by rw [List.length_map, ← r.length]
        refine .inr (.inr (.inr ⟨a, od, vs, rfl, hH, k _ _ _ S1 M1 H1 q1 e1 ok1 ⟨_, _, hl ▸ walk_keys, fun S' M' H e ok' _ => ok'.ex _ _ (e _ _ hS), fun i S' M' H x H' hi e1 ok' _ y => ?_⟩⟩))
        obtain ⟨rfl, key, v, hkv, rfl⟩ := y
        have hk2 : kvs[i]?.map (·.1) = some key := by
          have := congrArg (·[i]?) r.keys
          simp only [List.getElem?_map, hkv] at this
          rw [← this]; rfl
        cases hkk : kvs[i]? with
        | none => rw [hkk] at hk2; cases hk2
        | some kv =>
          rw [hkk] at hk2
          cases hk2
          refine ⟨S', kD kv.1, ?_, Ex.refl _, ok', Ex.refl _, kD_rep (hk kv (List.mem_of_getElem? hkk))⟩
          rw [List.getElem?_map, hkk]; rfl
      | _ => simp only [hm] at q1
  | _ => exact q1.elim
/-- range(..) -/
@[simp ↓] def wRange1 (w : SA) : SI := fun env M Q X => w env M (fun ds M1 => match ds with
  | [.int j] => j ≤ 100000 ∧ -100000 ≤ j ∧ Q (upFrom 0 j.toNat) (fun _ => True) M1
  | _ => False) X
@[simp ↓] def wRange2 (w : SA) : SI := fun env M Q X => w env M (fun ds M1 => match ds with
  | [.int i, .int j] => i ≤ 100000 ∧ -100000 ≤ i ∧ j ≤ 100000 ∧ -100000 ≤ j ∧ Q (upFrom i (j - i).toNat) (fun _ => True) M1
  | _ => False) X
theorem iw_range1 {w : SA} (hg : Gl X "range") (hm : X.mg "range" = none) (hs : starred a = false) (h : AW X E [a] w) : IW X E tg (.Call (.Name "range" p) [a] [] pos) (wRange1 w) :=
  PI.imp (pi_range1 hg hm h (star_cons hs _)) fun σ H R ⟨S, env, M, Qd, Qx, ok, en, q, k, x⟩ => ⟨S, env, M, _, Qx, ok, en, q, fun ds vs S2 M2 H2 q2 e2 ok2 r => by
    match ds, q2, r with
    | [.int j], ⟨h1, h2, q2⟩, ⟨v, t, e, hv, ht⟩ =>
      obtain rfl : v = .int j := hv
      obtain rfl : t = [] := ht
      exact ⟨j, e, by omega, by omega, k _ _ _ S2 M2 H2 q2 e2 ok2 (walkD_range 0 _)⟩, x⟩
theorem iw_range2 {w : SA} (hg : Gl X "range") (hm : X.mg "range" = none) (hs : starred a = false) (hs2 : starred b = false) (h : AW X E [a, b] w) : IW X E tg (.Call (.Name "range" p) [a, b] [] pos) (wRange2 w) :=
  PI.imp (pi_range2 hg hm h (by rw [star_cons hs, star_cons hs2]; rfl) (star_cons hs2 _)) fun σ H R ⟨S, env, M, Qd, Qx, ok, en, q, k, x⟩ => ⟨S, env, M, _, Qx, ok, en, q, fun ds vs S2 M2 H2 q2 e2 ok2 r => by
    match ds, q2, r with
    | [.int i, .int j], ⟨h1, h2, h3, h4, q2⟩, ⟨v, t, e, hv, u, t2, e3, hu, ht⟩ =>
      obtain rfl : v = .int i := hv
      obtain rfl : u = .int j := hu
      obtain rfl : t2 = [] := ht
      subst e3
      exact ⟨i, j, e, ⟨by omega, by omega, by omega, by omega⟩, k _ _ _ S2 M2 H2 q2 e2 ok2 (walkD_range i _)⟩, x⟩
/-! pairs -/
def pairsD (xs ys : List D) : List D := List.zipWith (fun a b => D.tup [a, b]) xs ys
theorem pairs_get {xs ys : List D} {i : Nat} {a b : D} (h1 : xs[i]? = some a) (h2 : ys[i]? = some b) : (pairsD xs ys)[i]? = some (.tup [a, b]) := by
  unfold pairsD; rw [List.getElem?_zipWith, h1, h2]
def enumD (ds : List D) : List D := pairsD (upFrom 0 ds.length) ds
end
end FL
set_option Elab.async false
set_option linter.all false
set_option maxRecDepth 100000
set_option maxHeartbeats 4000000
namespace FL
open PySem PySem.Spec PyProof.Rows L2 Evl
open Sem (wp)
/-! enumerate(t), t a tuple -/
theorem enum_newT {v : Value} {o : Obj} {H : Heap → Prop} (B : Begins v o H) :
    Meets (Builtin.«enumerate.__new__» ⟨[.type "enumerate", v], []⟩) (fun _ R s => H s.heap ∧
      R (.ok (.ret (.ref (s.heap.push o).objs.size))) { s with heap := (s.heap.push o).push { cls := .type "enumerate", data := .fields #[.none, .bool false, .ref s.heap.objs.size, rawInt 0, .none, .none] } }) :=
  .of_wp fun prog w A R s h => by
    obtain ⟨hp, g, d, tk, os⟩ := s; obtain ⟨h1, h⟩ := h
    have hsub := sub_enumerate
    have q1 : ∀ {A' : Around} {E : Value → Shared → Prop} {Q : Value → Shared → Prop}, Q (.ref hp.objs.size) ⟨hp.push o, g, d, tk, os⟩ → wpAny (model prog w) A' (pyIter v) Q E ⟨hp, g, d, tk, os⟩ :=
      fun q => B.iter prog w _ _ ⟨hp, g, d, tk, os⟩ _ h1 q
    wp_walk using q1
    refine wpAny_stack_any fun st => wpAny_pure ?_
    split
    · rename_i c _ _ _ _ _
      cases (c == Value.type "enumerate")
      · wp_walk using q1
        exact ⟨_, rfl, h⟩
      · wp_walk using q1
        exact ⟨_, rfl, h⟩
    · wp_walk using q1
      exact ⟨_, rfl, h⟩
theorem enum_beginsT {prog : Program} {w : World} {A : Around} {E : Value → Shared → Prop} {s : Shared} {v : Value} {o : Obj} {H : Heap → Prop} {Q : Value → Shared → Prop} (B : Begins v o H) (h1 : H s.heap)
    (h : ∀ h', IsEnum h' (s.heap.objs.size + 1) s.heap.objs.size 0 .none → h'.get? s.heap.objs.size = some o → h'.objs.size = s.heap.objs.size + 2 →
      (∀ b o, s.heap.get? b = some o → h'.get? b = some o) → Q (.ref (s.heap.objs.size + 1)) { s with heap := h' }) :
    wpAny (model prog w) A (call (.type "enumerate") [v]) Q E s := by
  refine callType_new F.called_enumerate (by decide) (F.typeCall_enumerate_1 _) (F.newCall_enumerate_1 _) (fun obj => F.args_object_init_2 obj _) F.entry_enumerate_new (enum_newT B) ⟨h1, ?_⟩
  have hz : (s.heap.push o).objs.size = s.heap.objs.size + 1 := Heap.size_push ..
  show _ ∧ _
  rw [hz]
  have he : IsEnum ((s.heap.push o).push { cls := .type "enumerate", data := .fields #[.none, .bool false, .ref s.heap.objs.size, rawInt 0, .none, .none] }) (s.heap.objs.size + 1) s.heap.objs.size 0 .none := by
    have := Heap.get?_push_size (s.heap.push o) (o := { cls := .type "enumerate", data := .fields #[.none, .bool false, .ref s.heap.objs.size, rawInt 0, .none, .none] }) rfl
    rw [hz] at this; exact this
  exact ⟨⟨_, he, rfl⟩, h _ he (Heap.get?_push_of_some _ (Heap.get?_push_size _ B.free)) (by rw [Heap.size_push, hz]) fun b o x => Heap.get?_push_of_some _ (Heap.get?_push_of_some _ x)⟩
/-- the tuple at a as it stands, each item in a new pair with its place -/
def IteT (K : PySem.W.Frag) (a : Addr) : It :=
  ⟨fun i H => ∃ (xs : List V) (x : V), SqT K H a xs ∧ xs[i]? = some x, fun i H v H' => ∃ T x, v = .ref T ∧ H T = none ∧ H' = upd H T (.tup [.int (i : Nat), x]) ∧ ∀ xs, SqT K H a xs → xs[i]? = some x, fun i H => ∃ xs : List V, SqT K H a xs ∧ xs.length ≤ i⟩
theorem turn_enumT {P : Program} {w : World} {K : PySem.W.Frag} {elts : List Expr} {kk : Nat} {tpos : Pos} (a e it : Addr) :
    Turn P w K (.Tuple elts kk tpos) (IteT K a) [e, it] e (fun i h => (∃ old, IsEnum h e it ((i : Nat) : Int) old) ∧ h.IsTupleIter it a i ∧ e ≠ it) where
  mem := by simp
  obj := fun i h st b hb => by
    obtain ⟨⟨old, he⟩, ⟨o, ho, hc, hd⟩, _⟩ := st
    have e' : b = e ∨ b = it := by simpa using hb
    rcases e' with z | z
    · rw [z]; exact ⟨_, he, fun v q => nomatch q⟩
    · rw [z]; exact ⟨o, ho, fun v q => by rw [hd] at q; cases q⟩
  keep := fun i h h' st k => let ⟨⟨old, he⟩, hi, hne⟩ := st; ⟨⟨old, k e (by simp) _ he⟩, hi.at fun o q => k it (by simp) o q, hne⟩
  item := by
    intro X hP hw hK hc i pins s σ H E I hf st hg
    subst hP hw hK
    obtain ⟨⟨old, he⟩, hit, hne⟩ := st
    obtain ⟨xs, x, hq, hx⟩ := hg
    obtain ⟨its, rv, p, hz⟩ := I.tuple hq
    obtain ⟨u, hu, ru⟩ := rv.get hx
    have hel : e < s.heap.objs.size := Heap.lt_size he
    have hil : it < s.heap.objs.size := by obtain ⟨_, q, _⟩ := hit; exact Heap.lt_size q
    obtain ⟨oa, hoa, hca, na, hda⟩ := id p
    have hai : a ≠ it := by
      rintro rfl
      obtain ⟨o2, h2, c2, _⟩ := hit
      rw [hoa] at h2; cases h2
      rw [hca] at c2; exact absurd c2 (by decide)
    have hae : e ∉ [it, a] := by
      intro hm
      have e' : e = it ∨ e = a := by simpa using hm
      rcases e' with z | z
      · exact hne z
      · subst z
        have h2 := he
        unfold IsEnum at h2
        rw [hoa] at h2
        cases h2
        have z : Value.type "enumerate" = Value.type "tuple" := hca
        exact absurd z (by decide)
    have hlt : i < its.toArray.size := by
      have := (List.getElem?_eq_some_iff.mp hu).1
      simpa using this
    refine wpAny_pyNext_enum_itemD (Draws.tuple (A := X.A.in1) (show X.A.in1.handled = none from I.ok.hd hc) it a hai its.toArray) he ⟨hit, p⟩ hlt hne hae fun u' h' tk hp' ho hst' hT hsz hk => ?_
    obtain rfl : u' = u := by
      have : its.toArray[i]? = some u := by simpa using hu
      rw [this] at hp'; exact (Option.some.inj hp').symm
    refine ⟨_, rfl, wpAny_letOwnedTupleGo_enum (s := { s with heap := h', toks := tk + 1 }) ho fun h'' he' sb => ?_⟩
    have hT2 : h''.get? s.heap.objs.size = some { cls := .type "tuple", data := .seq #[.int i tk, u'] } := (sb.2 _ (Nat.ne_of_gt hel)).trans hT
    have new : ObjOk X.prog X.w (upd H s.heap.objs.size (.tup [.int (i : Nat), x])) h'' s.heap.objs.size (.tup [.int (i : Nat), x]) :=
      ⟨by show 2 ≤ sizeLine; decide, [.int i tk, u'], .cons ⟨_, rfl⟩ (.cons ru .nil), ⟨_, hT2, rfl, _, rfl⟩⟩
    have I1 : L2.Inv X pins σ (upd H s.heap.objs.size (.tup [.int (i : Nat), x])) { s with heap := h'', toks := tk + 1 } :=
      I.turnedNew (ch := [e, it]) (fun b ob hb q => (sb.2 b (fun z => hb (by simp [z]))).trans (hk b ob (fun z => hb (by simp [z])) (fun z => hb (by simp [z])) q)) hf (Nat.le_refl _) new
    refine ⟨.ref s.heap.objs.size, _, I1, rfl, ⟨_, x, rfl, I.hok.fresh (Nat.le_refl _), rfl, fun ys hy => by rw [I.tuple_inj hy hq]; exact hx⟩, ⟨⟨u', ?_⟩, hst'.1.at fun o q => (sb.2 it (Ne.symm hne)).trans q, hne⟩, fun b hb => ?_⟩
    · have e1 : ((i + 1 : Nat) : Int) = (i : Int) + 1 := by omega
      rw [e1]; exact he'
    · have hb' : b < s.heap.objs.size := by
        have e' : b = e ∨ b = it := by simpa using hb
        rcases e' with z | z
        · rw [z]; exact hel
        · rw [z]; exact hil
      rw [upd_ne (Nat.ne_of_lt hb')]
      exact (hf b hb).1
  done := by
    intro X hP hw hK hc i pins s σ H E I hf st hg
    subst hP hw hK
    obtain ⟨⟨old, he⟩, hit, hne⟩ := st
    obtain ⟨xs, hq, hx⟩ := hg
    obtain ⟨its, rv, p, hz⟩ := I.tuple hq
    obtain ⟨oa, hoa, hca, na, hda⟩ := id p
    have hai : a ≠ it := by
      rintro rfl
      obtain ⟨o2, h2, c2, _⟩ := hit
      rw [hoa] at h2; cases h2
      rw [hca] at c2; exact absurd c2 (by decide)
    obtain ⟨f0, f1, f2, f3, f4, f5⟩ := hf it (by simp)
    have hl := rv.length
    have hT : s.TypeIs (.ref e) "enumerate" := ⟨_, he, rfl⟩
    unfold pyNext
    refine wpAny_bind (wpAny_attempt (wpAny_callSpecial?_slot (name := Str.ofString "__next__") hT F.slot_enumerate_next (wpAny_call_entry F.slot_enumerate_next hT F.entry_enumerate_next ?_ (F.args_enumerate_next_1 _))))
    show wpAny _ _ (field (.ref e) 2 >>= _) _ _ _
    refine wpAny_bind (wpAny_field he rfl (x := .ref it) rfl ?_)
    refine wpAny_bind (wpAny_nextOf_tuple_end (show X.A.in1.handled = none from I.ok.hd hc) hit p (by simp; omega) fun h' x he' hx' => ?_)
    obtain ⟨o, ho, hc'⟩ := hx'
    refine wpAny_bind (wpAny_isInstance (T := "StopIteration") (b := true) ⟨o, ho, hc'⟩ isSubtype_stop ?_)
    exact wpAny_pure ⟨rfl, I.turned (t' := s.toks) (fun b o hb q => he' b o hb q) f0 f1 f3 f4 f5⟩
  self := fun A i s Q E st h => let ⟨⟨_, he⟩, _⟩ := st; wpAny_pyIter_enum he h
def iEnumT (K : PySem.W.Frag) (ta : TA) : TI := fun σ H R => ta σ H fun vs H1 => ∃ a xs, vs = [.ref a] ∧ SqT K H1 a xs ∧ R (IteT K a) H1
theorem pi_enumT {X : Cx} {e : Expr} {ta : TA} {p pos tpos : Pos} {elts : List Expr} {kk : Nat} (hg : Gl X "enumerate") (hm : X.mg "enumerate" = none) (ha : PA X [e] ta) (hs : starEach [e] X.env = [(false, eval e X.env)] := by rfl) :
    PI X (.Tuple elts kk tpos) (.Call (.Name "enumerate" p) [e] [] pos) (iEnumT X.K ta) := by
  refine ⟨fun pins s σ H R I h => ?_⟩
  refine Call_ (ld_blt I hg hm boot_enumerate (PyProof.Rows.callWith_type1 (thn (ha.run pos pins s σ H _ I h) fun us s1 ⟨vs, H1, I1, r1, q1⟩ => ?_) hs rfl))
  obtain ⟨a, xs, ex, hq, q⟩ := q1
  subst ex
  cases r1 with
  | cons r rr =>
    cases rr
    cases r
    obtain ⟨its, rv, p', hz⟩ := I1.tuple hq
    refine enum_beginsT (begins_tuple a its.toArray) (show s1.heap.IsTuple a its.toArray from p') fun h' he hit hsz hk => wpAny_pyIter_enum he ?_
    have I2 : L2.Inv X pins σ H1 { s1 with heap := h' } := I1.kept (t' := s1.toks) hk
    refine ⟨s1.heap.objs.size + 1, [s1.heap.objs.size + 1, s1.heap.objs.size], _, _, H1, rfl, I2, turn_enumT a (s1.heap.objs.size + 1) s1.heap.objs.size, ⟨⟨.none, he⟩, ⟨_, hit, rfl, rfl⟩, Nat.succ_ne_self _⟩, fun b hb => ?_, q⟩
    have e' : b = s1.heap.objs.size + 1 ∨ b = s1.heap.objs.size := by simpa using hb
    have hle : s1.heap.objs.size ≤ b := by
      rcases e' with z | z
      · rw [z]; exact Nat.le_add_right _ _
      · rw [z]; exact Nat.le_refl _
    exact I1.fpOk hle (I1.hok.fresh hle)
theorem walk_enumT {K : PySem.W.Frag} {a : Addr} {xs : List V} : Walk (IteT K a) xs.length (fun H => SqT K H a xs) (YPair (fun i => some (.int (i : Nat))) (fun i => xs[i]?)) := by
  refine ⟨fun i _ hi q => ⟨xs, xs[i], q, by simp [hi]⟩, fun _ q => ⟨xs, q, Nat.le_refl _⟩, fun i H v H' _ q y => ?_⟩
  obtain ⟨T, x, h1, h2, h3, h4⟩ := y
  exact ⟨T, .int (i : Nat), x, h1, h2, h3, rfl, h4 xs q⟩
section
variable {K : PySem.W.Frag} {S2 : Hp}
theorem WalkD.pairs {J : It} {ds es : List D} {xs ys : List V} {G : Hp → Prop} {C : Mem → Prop} (w : Walk J (min xs.length ys.length) G (YPair (fun i => xs[i]?) (fun i => ys[i]?))) (hG : ∀ S' M' H, Ex S2 S' → Ok K S' M' H → C M' → G H) (r : RepL K S2 ds xs) (q : RepL K S2 es ys) : WalkD K S2 C J (pairsD ds es) := by
  have hl : (pairsD ds es).length = min xs.length ys.length := by unfold pairsD; rw [List.length_zipWith, r.length, q.length]
  refine ⟨G, _, hl ▸ w, hG, fun i S' M' H x H' hi e1 ok _ y => ?_⟩
  obtain ⟨T, u, v, rfl, hT, rfl, h1, h2⟩ := y
  obtain ⟨d, hd, rd⟩ := r.get' h1
  obtain ⟨f, hf, rf⟩ := q.get' h2
  obtain ⟨a1, a2, a3, a4⟩ := ex_upd2 (o := .tup [u, v]) ok.ex hT
  exact ⟨_, _, pairs_get hd hf, a1, ok.grew a1 a2 a3 a4, a3, T, [u, v], rfl, st_of upd_same, RepL.cons ((rd.mono e1).mono a1) (RepL.one ((rf.mono e1).mono a1))⟩
theorem walk_zipT {a b : Addr} {xs ys : List V} : Walk (RZ.ItzT K a b) (min xs.length ys.length) (fun H => SqT K H a xs ∧ SqT K H b ys) (YPair (fun i => xs[i]?) (fun i => ys[i]?)) := by
  refine ⟨fun i _ hi q => ?_, fun _ q => ⟨xs, ys, q.1, q.2, by omega⟩, fun i H v H' _ q y => ?_⟩
  · have h1 : i < xs.length := by omega
    have h2 : i < ys.length := by omega
    exact ⟨xs, ys, xs[i], ys[i], q.1, q.2, by simp [h1], by simp [h2]⟩
  · obtain ⟨T, x, z, h1, h2, h3, h4, h5⟩ := y
    exact ⟨T, x, z, h1, h2, h3, h4 xs q.1, h5 ys q.2⟩
theorem enum_walk {J : It} {ds : List D} {xs : List V} {G : Hp → Prop} {C : Mem → Prop} (w : Walk J xs.length G (YPair (fun i => some (.int (i : Nat))) (fun i => xs[i]?))) (hG : ∀ S' M' H, Ex S2 S' → Ok K S' M' H → C M' → G H) (r : RepL K S2 ds xs) : WalkD K S2 C J (enumD ds) := by
  have hl : (enumD ds).length = xs.length := by unfold enumD pairsD; rw [List.length_zipWith, upFrom_len, r.length, Nat.min_self]
  refine ⟨G, _, hl ▸ w, hG, fun i S' M' H x H' hi e1 ok _ y => ?_⟩
  obtain ⟨T, u, v, rfl, hT, rfl, h1, h2⟩ := y
  obtain rfl : V.int (i : Nat) = u := Option.some.inj h1
  obtain ⟨f, hf, rf⟩ := r.get' h2
  have hi' : i < ds.length := (List.getElem?_eq_some_iff.mp hf).1
  obtain ⟨a1, a2, a3, a4⟩ := ex_upd2 (o := .tup [.int (i : Nat), v]) ok.ex hT
  refine ⟨_, _, pairs_get (upFrom_get hi') hf, a1, ok.grew a1 a2 a3 a4, a3, T, [.int (i : Nat), v], rfl, st_of upd_same, RepL.cons ?_ (RepL.one ((rf.mono e1).mono a1))⟩
  show V.int (i : Nat) = V.int (0 + (i : Nat))
  rw [Int.zero_add]
end
section
variable {X : Cx} {E : WK} {a b : Expr} {pos p tpos : Pos} {elts : List Expr} {kk : Nat}
@[simp ↓] def wZip (w : SA) : SI := fun env M Q X => w env M (fun ds M1 => match ds with
  | [.tup xs, .tup ys] => Q (pairsD xs ys) (fun _ => True) M1
  | [.lst xs, .lst ys] => Q (pairsD xs ys) (fun _ => True) M1
  | _ => False) X
theorem iw_zip {w : SA} (hg : Gl X "zip") (hm : X.mg "zip" = none) (hs : starred a = false) (hs2 : starred b = false) (h : AW X E [a, b] w) : IW X E (.Tuple elts kk tpos) (.Call (.Name "zip" p) [a, b] [] pos) (wZip w) :=
  PI.imp (RZ.pi_zipA hg hm h (star_cons hs _) (star_none (es := [b]) _ (by simp [hs2]))) fun σ H R ⟨S, env, M, Qd, Qx, ok, en, q, k, x⟩ => ⟨S, env, M, _, Qx, ok, en, q, fun ds vs S2 M2 H2 q2 e2 ok2 r => by
    match ds, q2, r with
    | [.tup xs, .tup ys], q2, ⟨v1, t1, e, ⟨a1, us, z1, hq, rl⟩, v2, t2, e3, ⟨b1, ws, z2, hq2, rl2⟩, ht⟩ =>
      subst z1 z2
      obtain rfl : t2 = [] := ht
      subst e3
      exact ⟨a1, b1, us, ws, e, .inr ⟨ex_t ok2.ex hq, ex_t ok2.ex hq2, k _ _ _ S2 M2 H2 q2 e2 ok2 (WalkD.pairs walk_zipT (fun S' M' H e ok' _ => ⟨ex_t (e.trans ok'.ex) hq, ex_t (e.trans ok'.ex) hq2⟩) rl rl2)⟩⟩
    | [.lst xs, .lst ys], q2, ⟨v1, t1, e, ⟨a1, us, z1, hq, rl⟩, v2, t2, e3, ⟨b1, ws, z2, hq2, rl2⟩, ht⟩ =>
      subst z1 z2
      obtain rfl : t2 = [] := ht
      subst e3
      exact ⟨a1, b1, us, ws, e, .inl ⟨sq_of (ok2.ex _ _ hq), sq_of (ok2.ex _ _ hq2), k _ _ _ S2 M2 H2 q2 e2 ok2 (WalkD.pairs (walk_zip rfl) (fun S' M' H e ok' _ => ⟨sq_of (ok'.ex _ _ (e _ _ hq)), sq_of (ok'.ex _ _ (e _ _ hq2))⟩) rl rl2)⟩⟩, x⟩
/-- enumerate: of a tuple (t), of a list -/
@[simp ↓] def wEnum (t : Bool) (w : SA) : SI := fun env M Q X => w env M (fun ds M1 => match t, ds with
  | true, [.tup xs] => Q (enumD xs) (fun _ => True) M1
  | false, [.lst xs] => Q (enumD xs) (fun _ => True) M1
  | _, _ => False) X
theorem iw_enumT {w : SA} (hg : Gl X "enumerate") (hm : X.mg "enumerate" = none) (hs : starred a = false) (h : AW X E [a] w) : IW X E (.Tuple elts kk tpos) (.Call (.Name "enumerate" p) [a] [] pos) (wEnum true w) :=
  PI.imp (pi_enumT hg hm h (star_cons hs _)) fun σ H R ⟨S, env, M, Qd, Qx, ok, en, q, k, x⟩ => ⟨S, env, M, _, Qx, ok, en, q, fun ds vs S2 M2 H2 q2 e2 ok2 r => by
    match ds, q2, r with
    | [.tup xs], q2, ⟨v1, t1, e, ⟨a1, us, z1, hq, rl⟩, ht⟩ =>
      subst z1
      obtain rfl : t1 = [] := ht
      exact ⟨a1, us, e, ex_t ok2.ex hq, k _ _ _ S2 M2 H2 q2 e2 ok2 (enum_walk walk_enumT (fun S' M' H e ok' _ => ex_t (e.trans ok'.ex) hq) rl)⟩, x⟩
theorem iw_enumL {w : SA} (hg : Gl X "enumerate") (hm : X.mg "enumerate" = none) (hs : starred a = false) (h : AW X E [a] w) : IW X E (.Tuple elts kk tpos) (.Call (.Name "enumerate" p) [a] [] pos) (wEnum false w) :=
  PI.imp (pi_enum hg hm h (star_cons hs _)) fun σ H R ⟨S, env, M, Qd, Qx, ok, en, q, k, x⟩ => ⟨S, env, M, _, Qx, ok, en, q, fun ds vs S2 M2 H2 q2 e2 ok2 r => by
    match ds, q2, r with
    | [.lst xs], q2, ⟨v1, t1, e, ⟨a1, us, z1, hq, rl⟩, ht⟩ =>
      subst z1
      obtain rfl : t1 = [] := ht
      exact ⟨a1, us, e, sq_of (ok2.ex _ _ hq), k _ _ _ S2 M2 H2 q2 e2 ok2 (enum_walk walk_enum (fun S' M' H e ok' _ => sq_of (ok'.ex _ _ (e _ _ hq))) rl)⟩, x⟩
end
end FL
set_option Elab.async false
set_option linter.all false
set_option maxRecDepth 100000
set_option maxHeartbeats 4000000
namespace FL
open PySem PySem.Spec PyProof.Rows L2 Evl
/-! ### list comprehensions -/
abbrev E00 : WK := fun _ => E0
theorem wipe_set {x : Option V} : ∀ (vs : List Nat) (τ : L2.St) (v : Nat), L2.wipe (τ.set v x) vs = if v ∈ vs then L2.wipe τ vs else (L2.wipe τ vs).set v x
  | [], τ, v => by simp [L2.wipe]
  | u :: r, τ, v => by
    show (L2.wipe (τ.set v x) r).set u none = if v ∈ u :: r then (L2.wipe τ r).set u none else ((L2.wipe τ r).set u none).set v x
    rw [wipe_set r τ v]
    by_cases h : v = u
    · subst h
      by_cases h2 : v ∈ r
      · simp [h2]
      · simp [h2]
    · by_cases h2 : v ∈ r
      · simp [h2]
      · simp [h2, h]
        exact List.set_comm _ _ h
theorem wipe_wipe : ∀ (vs : List Nat) (τ : L2.St), L2.wipe (L2.wipe τ vs) vs = L2.wipe τ vs
  | [], τ => rfl
  | u :: r, τ => by
    show (L2.wipe ((L2.wipe τ r).set u none) r).set u none = (L2.wipe τ r).set u none
    rw [wipe_set r _ u]
    by_cases h : u ∈ r
    · rw [if_pos h, wipe_wipe r τ]
    · rw [if_neg h, wipe_wipe r τ, List.set_set]
theorem wipe_in {x : Option V} {vs : List Nat} {τ : L2.St} {v : Nat} (h : v ∈ vs) : L2.wipe (τ.set v x) vs = L2.wipe τ vs := by rw [wipe_set, if_pos h]
/-- a comprehension's targets -/
structure Tg (K : PySem.W.Frag) (g : TG) (vs : List Nat) (asg : Sl → D → Sl → Prop) : Prop where
  go : ∀ S env σ H d v (Q : L2.St → Hp → Prop) env', Ex S H → EnvR K S env σ → Rep K S d v → asg env d env' → (∀ σ', EnvR K S env' σ' → L2.wipe σ' vs = L2.wipe σ vs → Q σ' H) → g v σ H Q
@[simp ↓] def asT1 (j : Nat) : Sl → D → Sl → Prop := fun env d env' => env' = env.set j (some d)
@[simp ↓] def asTs : List Nat → List D → Sl → Sl → Prop
  | [], ds, env, env' => ds = [] ∧ env' = env
  | i :: r, ds, env, env' => match ds with
    | d :: t => asTs r t (env.set i (some d)) env'
    | [] => False
@[simp ↓] def asT (is : List Nat) : Sl → D → Sl → Prop := fun env d env' => match d with
  | .tup ds => asTs is ds env env'
  | _ => False
theorem tg1 {K : PySem.W.Frag} {j : Nat} {vs : List Nat} (h : j ∈ vs) : Tg K (gName j) vs (asT1 j) := ⟨fun S env σ H d v Q env' e en r ha k => by
  subst ha
  exact k _ (en.setD r j) (wipe_in h)⟩
theorem asTs_len : ∀ {is : List Nat} {ds : List D} {env env' : Sl}, asTs is ds env env' → ds.length = is.length
  | [], ds, _, _, h => by rw [h.1]; rfl
  | i :: r, [], _, _, h => h.elim
  | i :: r, d :: t, _, _, h => by rw [List.length_cons, List.length_cons, asTs_len (is := r) h]
theorem tgs_read {K : PySem.W.Frag} {S H : Hp} {Q : L2.St → Hp → Prop} {env' : Sl} {vs : List Nat} {τ : L2.St} (k : ∀ σ', EnvR K S env' σ' → L2.wipe σ' vs = L2.wipe τ vs → Q σ' H) :
    ∀ {is : List Nat} {ds : List D} {us : List V} {env : Sl} {σ : L2.St}, (∀ i ∈ is, i ∈ vs) → L2.wipe σ vs = L2.wipe τ vs → EnvR K S env σ → RepL K S ds us → asTs is ds env env' → gNames is us σ H Q
  | [], ds, us, env, σ, hi, hw, en, r, q => by
    obtain ⟨rfl, rfl⟩ := q
    exact ⟨r, k _ en hw⟩
  | i :: is, [], us, env, σ, hi, hw, en, r, q => q.elim
  | i :: is, d :: t, us, env, σ, hi, hw, en, ⟨x, r, e, h1, h2⟩, q => ⟨x, r, e, tgs_read k (fun j hj => hi j (List.mem_cons_of_mem _ hj)) ((wipe_in (hi i List.mem_cons_self)).trans hw) (en.setD h1 i) h2 q⟩
theorem tgs {K : PySem.W.Frag} {is vs : List Nat} (h : ∀ i ∈ is, i ∈ vs) : Tg K (gTup K is.length (gNames is)) vs (asT is) := ⟨fun S env σ H d v Q env' e en r ha k => by
  cases d <;> try exact ha.elim
  obtain ⟨a, xs, rfl, hq, rl⟩ := r
  exact ⟨a, xs, rfl, ex_t e hq, by rw [rl.length]; exact asTs_len ha, tgs_read k h rfl en rl ha⟩⟩
def erase (M : Mem) (a : Addr) : Mem := fun b => if b = a then none else M b
@[simp] theorem erase_put {M : Mem} {a : Addr} {m : MO} (h : M a = none) : erase (put M a m) a = M := by
  funext b; unfold erase put; split
  · subst_vars; exact h.symm
  · rfl
@[simp ↓] def noX : QX := fun _ _ => False
@[simp ↓] def tTrue : ST := fun _ M Q _ => Q true M
def lcW (asg : Sl → D → Sl → Prop) (vs : List Nat) (tt : ST) (te : SE) (C : Mem → Prop) (a0 : Addr) (env : Sl) : List D → List D → Mem → (List D → Mem → Prop) → Prop
  | [], acc, M, Q => C M ∧ M a0 = some (.ml acc) ∧ Q acc M
  | d :: ds, acc, M, Q => C M ∧ ∃ env2, asg (wipeE env vs) d env2 ∧ tt env2 M (fun b M3 => if b = true then te env2 M3 (fun r M4 => M4 a0 = some (.ml acc) ∧ lcW asg vs tt te C a0 env ds (acc ++ [r]) (put M4 a0 (.ml (acc ++ [r]))) Q) noX else lcW asg vs tt te C a0 env ds acc M3 Q) noX
theorem lcW.has {asg : Sl → D → Sl → Prop} {vs : List Nat} {tt : ST} {te : SE} {C : Mem → Prop} {a0 : Addr} {env : Sl} : ∀ {ds acc : List D} {M : Mem} {Q : List D → Mem → Prop}, lcW asg vs tt te C a0 env ds acc M Q → C M
  | [], _, _, _, h => h.1
  | _ :: _, _, _, _, h => h.1
def lcEnd (own : Bool) (a0 : Addr) (Q : QE) : List D → Mem → Prop := fun rs M2 => match own with
  | true => Q (.ptr a0) M2
  | false => Q (.lst rs) (erase M2 a0)
def wLc (own : Bool) (wi : SI) (asg : Sl → D → Sl → Prop) (vs : List Nat) (tt : ST) (te : SE) : SE := fun env M Q X => wi env M (fun ds C M1 => ds.length ≤ 100000 ∧ ∀ a0, M1 a0 = none → lcW asg vs tt te C a0 env ds [] (put M1 a0 (.ml [])) (lcEnd own a0 Q)) X
section
variable {K : PySem.W.Frag} {E : WK}
theorem lc_read {wi : SI} {ti : TI} {g : TG} {vs : List Nat} {asg : Sl → D → Sl → Prop} {own : Bool} {tt : ST} {te : SE} {σ : L2.St} {H : Hp} {Q : VK}
    (hi : ∀ R, tI K E wi σ H R → ti σ H R) (ht : Tg K g vs asg) (q : tE K E (wLc own wi asg vs tt te) σ H Q) : tLc ti g (tT K E00 tt) (tE K E00 te) vs σ H Q := by
  obtain ⟨S, env, M, Qd, Qx, ok, en, q, k, x⟩ := q
  refine hi _ ⟨S, env, M, _, Qx, ok, en, q, fun ds C J S1 M1 H1 lp e1 ok1 wd => fun D0 hD => ?_, x⟩
  obtain ⟨G, Y, wk, hG, hY⟩ := wd.ex
  obtain ⟨hlen, lp⟩ := lp
  have lp := lp D0 (ok1.fresh hD)
  have turnEq : ∀ i d, ds[i]? = some d → ds.drop i = d :: ds.drop (i + 1) := fun i d h => by
    obtain ⟨hlt, e⟩ := List.getElem?_eq_some_iff.mp h
    rw [← e]; exact List.drop_eq_getElem_cons hlt
  have none00 : ∀ S σ, kX K E00 S σ noX := fun S σ c _ _ _ z => z.elim
  refine lc_it wk (fun i H' => ∃ S' M' acc, Ex S1 S' ∧ Ok K S' M' H' ∧ acc.length ≤ i ∧ lcW asg vs tt te C D0 env (ds.drop i) acc M' (lcEnd own D0 Qd))
    ⟨S1, _, [], Ex.refl _, ok1.newL (ds := []) hD RepL.nil, Nat.le_refl _, by rw [List.drop_zero]; exact lp⟩ (fun i H' hi ⟨S', M', acc, e', ok', hl, lp'⟩ => hG S' M' H' e' ok' lp'.has) ?_ ?_
  · rintro i x0 H2 H3 hi ⟨S', M', acc, e', ok', hl, lp'⟩ y
    obtain ⟨S3, d, hd, e3, ok3, eh, rd⟩ := hY i S' M' H2 x0 H3 hi e' ok' lp'.has y
    rw [turnEq i d hd] at lp'
    obtain ⟨_, env2, ha, lp'⟩ := lp'
    refine ht.go S3 (wipeE env vs) (L2.wipe σ vs) H3 d x0 _ env2 ok3.ex ((en.mono (e1.trans (e'.trans e3))).wipe vs) rd ha fun σ2 en2 hw => ⟨hw.trans (wipe_wipe vs σ), ?_⟩
    refine ⟨S3, env2, M', _, noX, ok3, en2, lp', fun b S4 M4 H4 q4 e4 ok4 => ?_, none00 _ _⟩
    cases b with
    | false => exact iteF ⟨S4, M4, acc, (e'.trans e3).trans e4, ok4, by omega, q4⟩
    | true =>
      refine iteT ⟨S4, env2, M4, _, noX, ok4, en2.mono e4, q4, fun r v S5 M5 H5 q5 e5 ok5 r5 => ?_, none00 _ _⟩
      obtain ⟨hm5, q5⟩ := q5
      obtain ⟨hS5, xs, hv, rl⟩ := ok5.own D0 _ hm5
      have rl2 : RepL K S5 (acc ++ [r]) (xs ++ [v]) := rl.append (RepL.one r5)
      exact ⟨xs, hv, by rw [rl.length]; exact sz_lt (by omega), S5, _, acc ++ [r], ((e'.trans e3).trans e4).trans e5, ok5.change (m := .ml (acc ++ [r])) hS5 ⟨hS5, _, upd_same, rl2⟩, by simp; omega, q5⟩
  · rintro H2 ⟨S', M', acc, e', ok', hl, lp'⟩
    rw [List.drop_length] at lp'
    obtain ⟨_, hm, q⟩ := lp'
    cases own with
    | true => exact k _ _ S' M' H2 q (e1.trans e') ok' rfl
    | false =>
      obtain ⟨S2, e2, ok2, r2⟩ := ok'.freeze hm
      exact k _ _ S2 _ H2 q ((e1.trans e').trans e2) ok2 r2
end
section
variable {X : Cx} {E : WK} {e : Expr}
theorem ts_none : PTs X [] (tT X.K E tTrue) := PTs.imp pts_nil fun σ H Q ⟨S, env, M, Qd, Qx, ok, en, q, k, x⟩ => k true S M H q (Ex.refl _) ok
theorem ew_lc {own : Bool} {elt tg iter : Expr} {ifs : List Expr} {scope : Scope} {ow : List (Str × Nat)} {g : TG} {asg : Sl → D → Sl → Prop} {wi : SI} {tt : ST} {te : SE} {pos : Pos}
    (hc : X.calm = true) (hN : X.N.Nodup) (hi : IW X E tg iter wi) (ok : BlkOk X.N X.env.scope scope ow) (hg : ∀ (s : Shared) (H : Hp) (C : Addr) (cl : List (Str × Addr)) (fp : List Addr), PG (X.blk s H scope (compEnvC scope cl C X.env) fp) tg g)
    (ht : Tg X.K g (ow.map (·.2)) asg) (hts : ∀ (s : Shared) (H : Hp) (C : Addr) (cl : List (Str × Addr)) (fp : List Addr), PTs (X.blk s H scope (compEnvC scope cl C X.env) fp) ifs (tT X.K E00 tt))
    (hel : ∀ (s : Shared) (H : Hp) (C : Addr) (cl : List (Str × Addr)) (fp : List Addr), EW (X.blk s H scope (compEnvC scope cl C X.env) fp) E00 elt te) (hs : ∀ x, foldedSetIterable iter X.env x = Pure.pure x) :
    EW X E (.ListComp elt [⟨tg, iter, ifs, 0⟩] scope pos) (wLc own wi asg (ow.map (·.2)) tt te) :=
  PE.imp (pe_lc hc hN hi ok hg hts hel hs) fun σ H Q q => lc_read (fun _ z => z) ht q
/-- name = [..] on one line -/
theorem sw_setLc {own : Bool} {i : Nat} {y : Str} {py spos : Pos} {elt tg iter : Expr} {ifs : List Expr} {scope : Scope} {ow : List (Str × Nat)} {g : TG} {asg : Sl → D → Sl → Prop} {wi : SI} {tt : ST} {te : SE} {pos : Pos}
    (hc : X.calm = true) (hN : X.N.Nodup) (hy : X.N[i]? = some y) (hyl : X.env.scope.names.lookup y = some .local) (hsw : swapsWith (.ListComp elt [⟨tg, iter, ifs, 0⟩] scope pos) (some (.Name y py)) spos.line X.env = Pure.pure true)
    (hi : IW X E tg iter wi) (ok : BlkOk X.N X.env.scope scope ow) (hg : ∀ (s : Shared) (H : Hp) (C : Addr) (cl : List (Str × Addr)) (fp : List Addr), PG (X.blk s H scope (compEnvC scope cl C X.env) fp) tg g)
    (ht : Tg X.K g (ow.map (·.2)) asg) (hts : ∀ (s : Shared) (H : Hp) (C : Addr) (cl : List (Str × Addr)) (fp : List Addr), PTs (X.blk s H scope (compEnvC scope cl C X.env) fp) ifs (tT X.K E00 tt))
    (hel : ∀ (s : Shared) (H : Hp) (C : Addr) (cl : List (Str × Addr)) (fp : List Addr), EW (X.blk s H scope (compEnvC scope cl C X.env) fp) E00 elt te) (hs : ∀ x, foldedSetIterable iter X.env x = Pure.pure x) :
    SW X E (.Assign [.Name y py] (.ListComp elt [⟨tg, iter, ifs, 0⟩] scope pos) spos) (sAsg (gSlot i) (wLc own wi asg (ow.map (·.2)) tt te)) := by
  refine PS.imp (ps_setLc hc hN hy hyl hsw hi ok hg hts hel hs) fun Dn σ H ⟨S, env, M, P, ok, en, q, k⟩ => lc_read (fun _ z => z) ht ⟨S, env, M, _, _, ok, en, q, fun d v S2 M2 H2 p e2 ok2 r => ?_, kX_of k en⟩
  exact k _ p _ S2 H2 e2 ok2 ((en.mono e2).setD r i)
end
end FL
set_option Elab.async false
set_option linter.all false
set_option maxRecDepth 100000
set_option maxHeartbeats 4000000
namespace FL
open PySem PySem.Spec PyProof.Rows L2 Evl
/-! ### defs and their calls -/
abbrev Fn := List D → Mem → (D → Mem → Prop) → QX → Prop
def spM (K : PySem.W.Frag) (n : Nat) (f : Fn) : Sp := fun vs H Q E => ∃ S M ds Qd Qx, ds.length = n ∧ Ok K S M H ∧ RepL K S ds vs ∧ f ds M Qd Qx ∧ kE K S Qd Q ∧ ∀ c S2 M2 H2, Qx c M2 → Ex S S2 → OkX K c → Ok K S2 M2 H2 → E (exv K c) none H2
/-- a def of the module does as g says -/
structure Has (P : Program) (w : World) (K : PySem.W.Frag) (mg : Str → Option Value) (base : Heap) (name : Str) (k n : Nat) (g : Fn) : Prop where
  ex : ∃ f fd ps, mg name = some (.ref f) ∧ PySem.W.keepIn K (.ref f) = true ∧ Binds K fd ps [] ∧ ps.length = n ∧ FnOk P w K mg base (L2N.CX P w) k f fd ps (spM K n g)
theorem Has.up {P : Program} {w : World} {K : PySem.W.Frag} {mg : Str → Option Value} {base : Heap} {name : Str} {k k' n : Nat} {g : Fn} (h : Has P w K mg base name k n g) (hk : k ≤ k') : Has P w K mg base name k' n g := by
  obtain ⟨f, fd, ps, a, b, c, e, d⟩ := h.ex
  exact ⟨f, fd, ps, a, b, c, e, d.mono hk⟩
/-- what of the memory is known may be less -/
def dropQ {α : Type} (Q : α → Mem → Prop) : α → Mem → Prop := fun d M1 => ∃ M2, Le M2 M1 ∧ Q d M2
theorem dropQ.self {α : Type} {Q : α → Mem → Prop} {d : α} {M : Mem} (h : Q d M) : dropQ Q d M := ⟨M, Le.refl, h⟩
/-- the same from less -/
theorem Has.imp {P : Program} {w : World} {K : PySem.W.Frag} {mg : Str → Option Value} {base : Heap} {name : Str} {k n : Nat} {g g' : Fn} (h : Has P w K mg base name k n g)
    (hw : ∀ ds M Q X, g' ds M Q X → g ds M (dropQ Q) (dropQ X)) : Has P w K mg base name k n g' := by
  obtain ⟨f, fd, ps, a, b, c, e, d⟩ := h.ex
  refine ⟨f, fd, ps, a, b, c, e, d.imp fun vs H Q E ⟨S, M, ds, Qd, Qx, hl, ok, r, q, k1, k2⟩ => ?_⟩
  exact ⟨S, M, ds, _, _, hl, ok, r, hw ds M Qd Qx q, fun d v S2 M2 H2 ⟨M3, hle, q3⟩ e ok2 r2 => k1 d v S2 M3 H2 q3 e (ok2.le hle) r2, fun c S2 M2 H2 ⟨M3, hle, q3⟩ e ox ok2 => k2 c S2 M3 H2 q3 e ox (ok2.le hle)⟩
/-- .. from the numbers of the well that slot 0 points to -/
theorem Has.impW {P : Program} {w : World} {K : PySem.W.Frag} {mg : Str → Option Value} {base : Heap} {name : Str} {k n : Nat} {g g' : Fn} (h : Has P w K mg base name k n g)
    (hw : ∀ ds M Q X, g' ds M Q X → ∃ a, M a = some .well ∧ ∀ x y c : Int, 0 ≤ y → y < 4294967296 → 0 < c → c < 4294967296 → g ds (put M a (.ml [.int x, .int y, .int c])) (dropQ Q) (dropQ X)) : Has P w K mg base name k n g' := by
  obtain ⟨f, fd, ps, a, b, c, e, d⟩ := h.ex
  refine ⟨f, fd, ps, a, b, c, e, d.imp fun vs H Q E ⟨S, M, ds, Qd, Qx, hl, ok, r, q, k1, k2⟩ => ?_⟩
  obtain ⟨p, hp, hq⟩ := hw ds M Qd Qx q
  obtain ⟨x, y, z, h1, h2, h3, h4, ok'⟩ := ok.well hp
  exact ⟨S, _, ds, _, _, hl, ok', r, hq x y z h1 h2 h3 h4, fun d v S2 M2 H2 ⟨M3, hle, q3⟩ e ok2 r2 => k1 d v S2 M3 H2 q3 e (ok2.le hle) r2, fun c S2 M2 H2 ⟨M3, hle, q3⟩ e ox ok2 => k2 c S2 M3 H2 q3 e ox (ok2.le hle)⟩
@[simp ↓] def wCall (n : Nat) (f : Fn) (w : SA) : SE := fun env M Q X => w env M (fun ds M1 => ds.length = n ∧ f ds M1 Q X) X
section
variable {X : Cx} {E : WK} {a : Expr} {es : List Expr} {pos p : Pos} {x : Str} {k n : Nat} {g : Fn} {w : SA}
theorem ew_call (h : Has X.prog X.w X.K X.mg X.base x k n g) (tk : L2N.Takes X fun c d σ H => E σ c d H) (hr : Room k X.A) (hg : Gl X x) (hdb : (x == ("__debug__" : Str)) = false) (hs : (a :: es).all (fun e => !starred e) = true) (ha : AW X E (a :: es) w) :
    EW X E (.Call (.Name x p) (a :: es) [] pos) (wCall n g w) := by
  obtain ⟨f, fd, ps, hm, hk, hb, hn, F⟩ := h.ex
  have hs' := hs
  rw [List.all_cons, Bool.and_eq_true] at hs'
  exact PE.imp (pe_callS F hr hg hm hk hb (fun σ => L2N.passAt tk σ) ha hdb (star_cons (by have := hs'.1; revert this; cases starred a <;> simp) _) (star_none _ hs'.2)) fun σ H Q ⟨S, env, M, Qd, Qx, ok, en, q, kk, x⟩ => ⟨S, env, M, _, Qx, ok, en, q, fun ds vs S1 M1 H1 q1 e1 ok1 r1 =>
    ⟨S1, M1, ds, Qd, Qx, q1.1, ok1, r1, q1.2, kk.mono e1, x.mono e1⟩, x⟩
theorem pe_callS0 {CX : CXT} {f : Addr} {fd : FuncData} {ps : List Str} {sp : Sp} {E : L2.St → XK} (F : FnOk X.prog X.w X.K X.mg X.base CX k f fd ps sp) (hr : Room k X.A) (hg : Gl X x) (hm : X.mg x = some (.ref f)) (hk : PySem.W.keepIn X.K (.ref f) = true) (hb : Binds X.K fd ps []) (hx : ∀ σ, PassesAt CX X σ (E σ)) (hdb : (x == ("__debug__" : Str)) = false) :
    PE X (.Call (.Name x p) [] [] pos) (tCallS sp E tNil) := by
  refine ⟨fun pins s σ H Q I h => ?_⟩
  refine wpAny_Call_Name_kw (ld_glob I hg hm ?_ hdb)
  exact PySem.W.callWith_K0 I.kIn hk (run_fnS (us := []) F hr hb (hx σ) I .nil h)
theorem ew_call0 (h : Has X.prog X.w X.K X.mg X.base x k n g) (tk : L2N.Takes X fun c d σ H => E σ c d H) (hr : Room k X.A) (hg : Gl X x) (hdb : (x == ("__debug__" : Str)) = false) :
    EW X E (.Call (.Name x p) [] [] pos) (wCall n g aNil) := by
  obtain ⟨f, fd, ps, hm, hk, hb, hn, F⟩ := h.ex
  exact PE.imp (pe_callS0 F hr hg hm hk hb (fun σ => L2N.passAt tk σ) hdb) fun σ H Q ⟨S, env, M, Qd, Qx, ok, en, q, kk, x⟩ => ⟨S, M, [], Qd, Qx, q.1, ok, RepL.nil, q.2, kk, x⟩
end
/-- what a def's outcomes are to its caller -/
def outP (Q : D → Mem → Prop) (X : QX) (o : Out) : Prop := match o with
  | .rt d M => Q d M
  | .nx _ M => Q .non M
  | .xx c _ M => X c M
  | _ => False
@[simp ↓] theorem outP_rt {Q : D → Mem → Prop} {X : QX} {d : D} {m : Mem} : outP Q X (.rt d m) = Q d m := rfl
@[simp ↓] theorem outP_nx {Q : D → Mem → Prop} {X : QX} {e : Sl} {m : Mem} : outP Q X (.nx e m) = Q .non m := rfl
@[simp ↓] theorem outP_xx {Q : D → Mem → Prop} {X : QX} {c : Str} {e : Sl} {m : Mem} : outP Q X (.xx c e m) = X c m := rfl
@[simp ↓] theorem outP_bk {Q : D → Mem → Prop} {X : QX} {e : Sl} {m : Mem} : outP Q X (.bk e m) = False := rfl
@[simp ↓] theorem outP_ct {Q : D → Mem → Prop} {X : QX} {e : Sl} {m : Mem} : outP Q X (.ct e m) = False := rfl
def defW (N : List Str) (w : SS) : Fn := fun ds M Q X => w (env0 N ds) M (outP Q X)
/-- a def of the module as the top has left it -/
def Df (K : PySem.W.Frag) (mg : Str → Option Value) (x : Str) (st : Stmt) : Prop := ∃ f fd, mg x = some (.ref f) ∧ FunD K x x (defArgs st) (defBody st) (defScope st) [] [] f fd
abbrev Bnd (x : Str) (st : Stmt) (ps : List Str) : Prop := ∀ (kV doc pm : Value) (an : Option Addr) (cdv ct : Value) (us : List Value), us.length = ps.length → bindArgs (PySem.W.fnOf x x (defArgs st) (defBody st) (defScope st) .none kV doc pm an cdv ct) ⟨us, []⟩ = Pure.pure (ps.zip us)
section
variable {P : Program} {w : World} {K : PySem.W.Frag} {mg : Str → Option Value} {base : Heap} {x : Str} {st : Stmt} {N ps : List Str} {k n : Nat} {ws : SS}
theorem fnM {f : Addr} {fd : FuncData} (F : FunD K x x (defArgs st) (defBody st) (defScope st) [] [] f fd) (S : FnScope N ps (defScope st)) (hn : ps.length = n)
    (hb : ∀ (f : Addr) (cdv : Value) (A : Around) (outer : List Env) (s : Shared) (H : Hp) (E : XK), Room k (A.deeper (envOfC x (defScope st) s.heap.objs.size f cdv)) →
      BW (cxOf (L2N.CX P w) P w K mg base N x (defScope st) f cdv A outer s H E) (fun _ => E) (defBody st) ws) : FnOk P w K mg base (L2N.CX P w) (k + 1) f fd ps (spM K n (defW N ws)) := by
  refine F.ok S (fun vs H Q E ⟨S0, M, ds, Qd, Qx, hl, ok, r, _⟩ => by rw [r.length, hl, hn]) fun cdv A outer s H vs Q E hroom ⟨S0, M, ds, Qd, Qx, hl, ok, r, q, k1, k2⟩ => ⟨_, hb f cdv A outer s H E hroom, S0, _, M, _, ok, env0_ok r, q, fun o po => ?_⟩
  cases o with
  | rt d M => exact fun v S2 H2 e ok2 rd => k1 d v S2 M H2 po e ok2 rd
  | nx env M => exact fun σ' S2 H2 e ok2 _ => k1 .non .non S2 M H2 po e ok2 rfl
  | xx c env M => exact fun σ' S2 H2 e ox ok2 _ => k2 c S2 M H2 po e ox ok2
  | bk _ _ => exact po.elim
  | ct _ _ => exact po.elim
theorem hasM (h : Df K mg x st) (S : FnScope N ps (defScope st)) (b : Bnd x st ps) (hn : ps.length = n)
    (hb : ∀ (f : Addr) (cdv : Value) (A : Around) (outer : List Env) (s : Shared) (H : Hp) (E : XK), Room k (A.deeper (envOfC x (defScope st) s.heap.objs.size f cdv)) →
      BW (cxOf (L2N.CX P w) P w K mg base N x (defScope st) f cdv A outer s H E) (fun _ => E) (defBody st) ws) : Has P w K mg base x (k + 1) n (defW N ws) := by
  obtain ⟨f, fd, hm, F⟩ := h
  exact ⟨f, fd, ps, hm, F.kp, F.bindsN b, hn, fnM F S hn hb⟩
end
end FL
set_option Elab.async false
set_option linter.all false
set_option maxRecDepth 100000
set_option maxHeartbeats 4000000
namespace FL
open PySem PySem.Spec PyProof.Rows L2 Evl
/-! ### methods of built-in types -/
abbrev OpM := D → List D → Mem → QE → Prop
def GoodM (K : PySem.W.Frag) (r : V → List V → Hp → VK → Prop) (f : OpM) : Prop := ∀ (S : Hp) (M : Mem) (H : Hp) (x : V) (xs : List V) (d : D) (ds : List D) (Qd : QE) (Q : VK), Ok K S M H → Rep K S d x → RepL K S ds xs → f d ds M Qd → kE K S Qd Q → r x xs H Q
@[simp ↓] def isT (T : String) (M : Mem) (d : D) : Prop := match T with
  | "list" => ∃ ds, viewL M d = some ds
  | "dict" => match d with
    | .ptr a => (match M a with
      | some (.md _) => True
      | _ => False)
    | _ => False
  | "str" => match d with
    | .str _ => True
    | _ => False
  | _ => False
@[simp ↓] def wM (T : String) (f : OpM) (wo : SE) (w : SA) : SE := fun env M Q X => wo env M (fun d M1 => isT T M1 d ∧ w env M1 (fun ds M2 => f d ds M2 Q) X) X
theorem isT_ty {K : PySem.W.Frag} {S H : Hp} {M : Mem} {d : D} {x : V} {T : String} (ok : Ok K S M H) (r : Rep K S d x) (h : isT T M d) : tyV K T x H := by
  unfold isT at h
  split at h
  · obtain ⟨ds, h⟩ := h
    obtain ⟨a, xs, rfl, e1, _⟩ := view_rep ok r h
    exact .inl ⟨rfl, xs, sq_of e1⟩
  · cases d <;> try exact h.elim
    rename_i a
    obtain rfl : x = .ref a := r
    cases hm : M a with
    | none => simp [hm] at h
    | some m =>
      cases m <;> try (simp [hm] at h; done)
      obtain ⟨_, vs, hv, _⟩ := ok.own a _ hm
      exact .inr (.inr (.inl ⟨rfl, .inl ⟨vs, hv⟩⟩))
  · cases d <;> try exact h.elim
    rw [r.1]; rfl
  · exact h.elim
def notCall0 : Expr → Bool
  | .Call (.Name _ _) [] [] _ => false
  | _ => true
theorem base_of {o : Expr} {m : Str} {env : PySem.Env} {t : Sem Value} (h : notCall0 o = true) : attributeBase o m env t = t := by
  unfold attributeBase
  split
  · cases h
  · rfl
theorem few_of {es : List Expr} {cpos : Pos} {env : PySem.Env} (h : es.all (fun e => !starred e) = true) (hl : es.length < 30) : ((backTo cpos (starEach es env)).all (fun x => !x.1) && (backToKw cpos (keywordEach [] env)).all (fun x => x.1.isSome)
      && decide (es.length + ([] : List Keyword).length + (if ([] : List Keyword).isEmpty then 0 else 1) < 30)) = true := by
  have h1 : ∀ {es : List Expr}, es.all (fun e => !starred e) = true → (backTo cpos (starEach es env)).all (fun x => !x.1) = true := by
    intro es
    induction es with
    | nil => intro _; rfl
    | cons a r ih =>
      intro h
      rw [List.all_cons, Bool.and_eq_true] at h
      rw [star_cons (by have := h.1; revert this; cases starred a <;> simp)]
      show (true && (backTo cpos (starEach r env)).all (fun x => !x.1)) = true
      rw [ih h.2]; rfl
  rw [h1 h]
  have : (backToKw cpos (keywordEach [] env)).all (fun x => x.1.isSome) = true := by simp [keywordEach, backToKw]
  rw [this]
  simp only [Bool.true_and, decide_eq_true_eq]
  simp; omega
section
variable {X : Cx} {E : WK} {o e : Expr} {es : List Expr} {apos cpos : Pos} {wo : SE} {w : SA}
theorem ew_bm {T name id r f} (pa : PySem.PlainAttrs T) (slot : PySem.Slot T name id) (hty : typeOf (.builtin id) = Pure.pure (.type "method_descriptor")) (hm : MtR X id r) (g : GoodM X.K r f) (ho : EW X E o wo) (ha : AW X E (e :: es) w)
    (hb : notCall0 o = true) (hline : (apos.endLine == cpos.line) = true) (hs : (e :: es).all (fun e => !starred e) = true) (hl : (e :: es).length < 30) : EW X E (.Call (.Attribute o name apos) (e :: es) [] cpos) (wM T f wo w) := by
  have hs' := hs
  rw [List.all_cons, Bool.and_eq_true] at hs'
  exact PE.imp (pe_bm pa slot hty hm ho ha (base_of hb) (few_of hs hl) hline (star_cons (by have := hs'.1; revert this; cases starred e <;> simp) _) (star_none _ hs'.2)) fun σ H Q ⟨S, env, M, Qd, Qx, ok, en, q, k, x⟩ => ⟨S, env, M, _, Qx, ok, en, q, fun d v S1 M1 H1 q1 e1 ok1 r1 =>
    ⟨isT_ty ok1 r1 q1.1, S1, env, M1, _, Qx, ok1, en.mono e1, q1.2, fun ds vs S2 M2 H2 q2 e2 ok2 r2 => g S2 M2 H2 v vs d ds Qd Q ok2 (r1.mono e2) r2 q2 (k.mono (e1.trans e2)), x.mono e1⟩, x⟩
theorem ew_bm0 {T name id r f} (pa : PySem.PlainAttrs T) (slot : PySem.Slot T name id) (hty : typeOf (.builtin id) = Pure.pure (.type "method_descriptor")) (hm : MtR X id r) (g : GoodM X.K r f) (ho : EW X E o wo)
    (hb : notCall0 o = true) (hline : (apos.endLine == cpos.line) = true) : EW X E (.Call (.Attribute o name apos) [] [] cpos) (wM T f wo aNil) :=
  PE.imp (pe_bm0 pa slot hty hm ho (base_of hb) hline) fun σ H Q ⟨S, env, M, Qd, Qx, ok, en, q, k, x⟩ => ⟨S, env, M, _, Qx, ok, en, q, fun d v S1 M1 H1 q1 e1 ok1 r1 =>
    ⟨isT_ty ok1 r1 q1.1, g S1 M1 H1 v [] d [] Qd Q ok1 r1 RepL.nil q1.2 (k.mono e1)⟩, x⟩
end
section
variable {K : PySem.W.Frag}
/-- xs.append(d) .. -/
@[simp ↓] def ownL (M : Mem) (d : D) : Option (Addr × List D) := match d with
  | .ptr a => match M a with
    | some (.ml ds) => some (a, ds)
    | _ => none
  | _ => none
theorem ownL_rep {S H : Hp} {M : Mem} {d : D} {x : V} {a : Addr} {ds : List D} (ok : Ok K S M H) (r : Rep K S d x) (h : ownL M d = some (a, ds)) : x = .ref a ∧ d = .ptr a ∧ M a = some (.ml ds) ∧ S a = none ∧ ∃ xs, H a = some (.lst xs) ∧ RepL K S ds xs := by
  cases d <;> try (cases h; done)
  rename_i b
  cases hm : M b with
  | none => simp [ownL, hm] at h
  | some m =>
    cases m <;> try (simp [ownL, hm] at h; done)
    simp [ownL, hm] at h
    obtain ⟨rfl, rfl⟩ := h
    obtain ⟨hS, xs, hv, rl⟩ := ok.own b _ hm
    exact ⟨r, rfl, hm, hS, xs, hv, rl⟩
theorem kE.mut {S H : Hp} {M : Mem} {Qd : QE} {Q : VK} {a : Addr} {ds : List D} {xs : List V} {d : D} {v : V} (k : kE K S Qd Q) (ok : Ok K S M H) (hS : S a = none) (r : RepL K S ds xs) (q : Qd d (put M a (.ml ds))) (rd : Rep K S d v) : Q v (upd H a (.lst xs)) :=
  k d v S _ _ q (Ex.refl S) (ok.change (m := .ml ds) hS ⟨hS, xs, upd_same, r⟩) rd
@[simp ↓] def mAppend : OpM := fun d ds M Q => match ds with
  | [x] => ∃ a xs, ownL M d = some (a, xs) ∧ xs.length < 100000 ∧ Q .non (put M a (.ml (xs ++ [x])))
  | _ => False
theorem good_append : GoodM K rAppend mAppend := by
  intro S M H x xs d ds Qd Q ok r rs q k
  match ds, q with
  | [y], ⟨a, ys, h1, hl, qq⟩ =>
    obtain ⟨rfl, rfl, hm, hS, us, hv, rl⟩ := ownL_rep ok r h1
    obtain ⟨w, rfl, rw'⟩ := rs.one'
    exact ⟨a, us, w, rfl, rfl, hv, sz_lt (by rw [rl.length]; exact hl), k.mut ok hS (rl.append (RepL.one rw')) qq rfl⟩
@[simp ↓] def mExtend : OpM := fun d ds M Q => match ds with
  | [y] => ∃ a xs zs, ownL M d = some (a, xs) ∧ viewL M y = some zs ∧ xs.length + zs.length ≤ 100000 ∧ Q .non (put M a (.ml (xs ++ zs)))
  | _ => False
theorem good_extend : GoodM K rExtend mExtend := by
  intro S M H x xs d ds Qd Q ok r rs q k
  match ds, q with
  | [y], ⟨a, ys, zs, h1, h2, hl, qq⟩ =>
    obtain ⟨rfl, rfl, hm, hS, us, hv, rl⟩ := ownL_rep ok r h1
    obtain ⟨w, rfl, rw'⟩ := rs.one'
    obtain ⟨b, ws, rfl, hv2, rl2⟩ := view_rep ok rw' h2
    exact ⟨a, b, us, ws, rfl, rfl, hv, hv2, sz_of (by rw [rl.length, rl2.length]; exact hl), k.mut ok hS (rl.append rl2) qq rfl⟩
@[simp ↓] def mClear : OpM := fun d ds M Q => match ds with
  | [] => ∃ a xs, ownL M d = some (a, xs) ∧ Q .non (put M a (.ml []))
  | _ => False
theorem good_clear : GoodM K rClear mClear := by
  intro S M H x xs d ds Qd Q ok r rs q k
  match ds, q with
  | [], ⟨a, ys, h1, qq⟩ =>
    obtain ⟨rfl, rfl, hm, hS, us, hv, rl⟩ := ownL_rep ok r h1
    exact ⟨a, us, rfl, rs, hv, k.mut ok hS RepL.nil qq rfl⟩
theorem RepL.dropLast {S : Hp} {ds : List D} {xs : List V} (r : RepL K S ds xs) : RepL K S ds.dropLast xs.dropLast := by
  rw [List.dropLast_eq_take, List.dropLast_eq_take, r.length]; exact r.take _
theorem RepL.eraseIdx {S : Hp} : ∀ {ds : List D} {xs : List V} (n : Nat), RepL K S ds xs → RepL K S (ds.eraseIdx n) (xs.eraseIdx n)
  | [], _, n, h => by rw [show _ = [] from h]; exact RepL.nil
  | _ :: _, _, 0, ⟨x, r, e, h1, h2⟩ => by rw [e]; exact h2
  | _ :: _, _, n + 1, ⟨x, r, e, h1, h2⟩ => by rw [e]; exact RepL.cons h1 (RepL.eraseIdx n h2)
/-- xs.pop(), xs.pop(i) -/
@[simp ↓] def mPop : OpM := fun d ds M Q => match ds with
  | [] => ∃ a xs y, ownL M d = some (a, xs) ∧ xs[xs.length - 1]? = some y ∧ Q y (put M a (.ml xs.dropLast))
  | _ => False
@[simp ↓] def mPopAt : OpM := fun d ds M Q => match ds with
  | [.int i] => ∃ a xs k y, ownL M d = some (a, xs) ∧ -(2 ^ 63) ≤ i ∧ i < 2 ^ 63 ∧ seqIndex? i xs.length = some k ∧ xs[k]? = some y ∧ Q y (put M a (.ml (xs.eraseIdx k)))
  | _ => False
theorem good_pop : GoodM K rPop mPop := by
  intro S M H x xs d ds Qd Q ok r rs q k
  match ds, q with
  | [], ⟨a, ys, y, h1, hy, qq⟩ =>
    obtain ⟨rfl, rfl, hm, hS, us, hv, rl⟩ := ownL_rep ok r h1
    obtain ⟨v, hv2, rv⟩ := rl.get hy
    exact ⟨a, us, v, rfl, rs, hv, by rw [rl.length]; exact hv2, k.mut ok hS rl.dropLast qq rv⟩
theorem good_popAt : GoodM K rPopAt mPopAt := by
  intro S M H x xs d ds Qd Q ok r rs q k
  match ds, q with
  | [.int i], ⟨a, ys, j, y, h1, b1, b2, hi, hy, qq⟩ =>
    obtain ⟨rfl, rfl, hm, hS, us, hv, rl⟩ := ownL_rep ok r h1
    obtain ⟨w, rfl, rw'⟩ := rs.one'
    obtain rfl : w = .int i := rw'
    obtain ⟨v, hv2, rv⟩ := rl.get hy
    exact ⟨a, us, i, j, v, rfl, rfl, hv, b1, b2, by rw [rl.length]; exact hi, hv2, k.mut ok hS (rl.eraseIdx j) qq rv⟩
@[simp ↓] def mInsert : OpM := fun d ds M Q => match ds with
  | [.int i, y] => ∃ a xs, ownL M d = some (a, xs) ∧ xs.length < 100000 ∧ 0 ≤ i ∧ i < 2 ^ 63 ∧ Q .non (put M a (.ml (xs.take i.toNat ++ [y] ++ xs.drop i.toNat)))
  | _ => False
theorem good_insert : GoodM K (fun x vs H Q => ∃ (l : Addr) (xs : List V) (i : Int) (y : V), x = .ref l ∧ vs = [.int i, y] ∧ H l = some (.lst xs) ∧ xs.length < sizeLine ∧ 0 ≤ i ∧ i < 2 ^ 63 ∧ Q .non (upd H l (.lst (xs.take i.toNat ++ [y] ++ xs.drop i.toNat)))) mInsert := by
  intro S M H x xs d ds Qd Q ok r rs q k
  match ds, q with
  | [.int i, y], ⟨a, ys, h1, hl, b1, b2, qq⟩ =>
    obtain ⟨rfl, rfl, hm, hS, us, hv, rl⟩ := ownL_rep ok r h1
    obtain ⟨w, u, rfl, rw', ru⟩ := rs.two
    obtain rfl : w = .int i := rw'
    exact ⟨a, us, i, u, rfl, rfl, hv, sz_lt (by rw [rl.length]; exact hl), b1, b2, k.mut ok hS (((rl.take _).append (RepL.one ru)).append (rl.drop _)) qq rfl⟩
/-- texts -/
def joinS (z : Str) (ys : List Str) : Str := Txt.join z ys
@[simp ↓] def mJoin : OpM := fun d ds M Q => match d, ds with
  | .str z, [y] => ∃ ys : List Str, (viewL M y = some (ys.map D.str) ∨ y = .tup (ys.map D.str)) ∧ (ys.map (·.length)).sum + ys.length * z.length ≤ 16777216 ∧ PyData.strOk (Txt.join z ys) = true ∧ Q (.str (Txt.join z ys)) M
  | _, _ => False
theorem good_join : GoodM K (fun x xs H Q => ∃ a p, ∃ ys : List Str, x = .str a ∧ xs = [.ref p] ∧ (SqL K H p (ys.map V.str) ∨ SqT K H p (ys.map V.str)) ∧ (ys.map (·.length)).sum + ys.length * a.length ≤ 16777216 ∧ Q (.str (Txt.join a ys)) H) mJoin := by
  intro S M H x xs d ds Qd Q ok r rs q k
  match d, ds, q with
  | .str z, [y], ⟨ys, h1, hl, hk, q⟩ =>
    obtain ⟨w, rfl, rw'⟩ := rs.one'
    rcases h1 with h1 | rfl
    · obtain ⟨b, ws, rfl, hv2, rl2⟩ := view_rep ok rw' h1
      rw [repL_strs rl2] at hv2
      exact ⟨z, b, ys, r.1, rfl, .inl (sq_of hv2), hl, k.here ok q ⟨rfl, hk⟩⟩
    · obtain ⟨b, ws, rfl, hv2, rl2⟩ := tup_rep ok rw'
      rw [repL_strs rl2] at hv2
      exact ⟨z, b, ys, r.1, rfl, .inr hv2, hl, k.here ok q ⟨rfl, hk⟩⟩
end
/-! ### dicts -/
section
variable {X : Cx}
def rDGetM : V → List V → Hp → VK → Prop := fun x xs H Q => ∃ a y z o, x = .ref a ∧ xs = [y, z] ∧ DGet H a y o ∧ Q (o.getD z) H
theorem mtDGet (hu : X.A.units + 1 < cLine) : MtR X "dict.get" rDGetM := by
  intro pins s σ H x xs v us Q I rx rxs h
  obtain ⟨a, y, z, o, rfl, rfl, g, q⟩ := h
  obtain rfl : v = .ref a := rx
  obtain ⟨u1, u2, rfl, r1, r2⟩ : ∃ u1 u2, us = [u1, u2] ∧ RelV y u1 ∧ RelV z u2 := by
    cases rxs with
    | cons h1 t => cases t with
      | cons h2 t2 => cases t2; exact ⟨_, _, rfl, h1, h2⟩
  exact d_get2 hu I g r1 r2 fun w' s' I' rw' => ⟨_, H, I', rw', q⟩
end
def getKD (kvs : List (Key × D)) (k : Key) (d : D) : D := (getK kvs k).getD d
theorem RepKV.getN {K : PySem.W.Frag} {S : Hp} (q : Key) : ∀ {kvs : List (Key × D)} {vs : List (Key × V)}, RepKV K S kvs vs → getK kvs q = none → valV vs q = none
  | [], _, h, e => by rw [show _ = [] from h]; rfl
  | p :: r, _, ⟨x, t, e1, h1, h2⟩, e => by
    rw [e1]
    unfold getK at e
    unfold valV
    rw [List.find?_cons]
    by_cases h : p.1 = q
    · rw [if_pos h] at e; cases e
    · rw [if_neg h] at e
      have := RepKV.getN q h2 e
      simpa [h, valV] using this
@[simp ↓] def ownD (M : Mem) (d : D) : Option (Addr × List (Key × D)) := match d with
  | .ptr a => match M a with
    | some (.md ds) => some (a, ds)
    | _ => none
  | _ => none
theorem ownD_rep {K : PySem.W.Frag} {S H : Hp} {M : Mem} {d : D} {x : V} {a : Addr} {kvs : List (Key × D)} (ok : Ok K S M H) (r : Rep K S d x) (h : ownD M d = some (a, kvs)) : x = .ref a ∧ d = .ptr a ∧ M a = some (.md kvs) ∧ S a = none ∧ ∃ vs, H a = some (.dK vs) ∧ RepKV K S kvs vs ∧ ∀ kv ∈ kvs, okK kv.1 := by
  cases d <;> try (cases h; done)
  rename_i b
  cases hm : M b with
  | none => simp [ownD, hm] at h
  | some m =>
    cases m <;> try (simp [ownD, hm] at h; done)
    simp [ownD, hm] at h
    obtain ⟨rfl, rfl⟩ := h
    obtain ⟨hS, xs, hv, rl, hk⟩ := ok.own b _ hm
    exact ⟨r, rfl, hm, hS, xs, hv, rl, hk⟩
@[simp ↓] def mDGet : OpM := fun d ds M Q => match ds with
  | [y, z] => ∃ kvs k, viewD M d = some kvs ∧ keyOf y = some k ∧ Q (getKD kvs k z) M
  | _ => False
theorem good_dget {K : PySem.W.Frag} : GoodM K rDGetM mDGet := by
  intro S M H x xs d ds Qd Q ok r rs q k
  match ds, q with
  | [y, z], ⟨kvs, ky, h1, h2, q⟩ =>
    obtain ⟨a, vs, rfl, rd, rk⟩ := viewD_rep ok r h1
    obtain ⟨w, u, rfl, rw', ru⟩ := rs.two
    refine ⟨a, w, u, valV vs ky, rfl, rfl, .inl ⟨vs, ky, rd, keyOf_rep rw' h2, rfl⟩, ?_⟩
    unfold getKD at q
    cases e : getK kvs ky with
    | none => rw [e] at q; rw [rk.getN ky e]; exact k.here ok q ru
    | some d' =>
      rw [e] at q
      obtain ⟨v, hv, rv⟩ := rk.val ky d' e
      rw [hv]
      exact k.here ok q rv
/-- d[k] = v: the new pairs -/
def putD (kvs : List (Key × D)) (k : Key) (d : D) : List (Key × D) := if kvs.any (fun kv => decide (kv.1 = k)) then kvs.map (fun kv => if kv.1 = k then (kv.1, d) else kv) else kvs ++ [(k, d)]
theorem RepKV.any {K : PySem.W.Frag} {S : Hp} (k : Key) : ∀ {kvs : List (Key × D)} {vs : List (Key × V)}, RepKV K S kvs vs → (kvs.any fun kv => decide (kv.1 = k)) = vs.any fun kv => decide (kv.1 = k)
  | [], _, h => by rw [show _ = [] from h]; rfl
  | p :: r, _, ⟨x, t, e, _, h⟩ => by rw [e, List.any_cons, List.any_cons, RepKV.any k h]
theorem RepKV.app {α : Type} {K : PySem.W.Frag} {S : Hp} : ∀ {a b : List (α × D)} {x y : List (α × V)}, RepKV K S a x → RepKV K S b y → RepKV K S (a ++ b) (x ++ y)
  | [], _, _, _, h, g => by rw [show _ = [] from h]; exact g
  | _ :: _, _, _, _, ⟨x, r, e1, h1, h2⟩, g => ⟨x, r ++ _, by rw [e1]; rfl, h1, RepKV.app h2 g⟩
theorem RepKV.repl {K : PySem.W.Frag} {S : Hp} {k : Key} {d : D} {v : V} (hr : Rep K S d v) : ∀ {kvs : List (Key × D)} {vs : List (Key × V)}, RepKV K S kvs vs → RepKV K S (kvs.map fun kv => if kv.1 = k then (kv.1, d) else kv) (vs.map fun kv => if kv.1 = k then (kv.1, v) else kv)
  | [], _, h => by rw [show _ = [] from h]; rfl
  | p :: r, _, ⟨x, t, e, h1, h2⟩ => by
    rw [e, List.map_cons, List.map_cons]
    by_cases h : p.1 = k
    · exact ⟨v, _, by simp [h], by simp [h]; exact hr, RepKV.repl hr h2⟩
    · exact ⟨x, _, by simp [h], by simp [h]; exact h1, RepKV.repl hr h2⟩
theorem RepKV.put {K : PySem.W.Frag} {S : Hp} {k : Key} {d : D} {v : V} (hr : Rep K S d v) {kvs : List (Key × D)} {vs : List (Key × V)} (h : RepKV K S kvs vs) : RepKV K S (putD kvs k d) (putK vs k v) := by
  unfold putD putK
  rw [RepKV.any k h]
  split
  · exact RepKV.repl hr h
  · exact RepKV.app h ⟨v, [], rfl, hr, rfl⟩
theorem putD_ok {kvs : List (Key × D)} {k : Key} {d : D} (h : ∀ kv ∈ kvs, okK kv.1) (hk : okK k) : ∀ kv ∈ putD kvs k d, okK kv.1 := by
  intro kv hkv
  unfold putD at hkv
  split at hkv
  · obtain ⟨u, hu, rfl⟩ := List.mem_map.mp hkv
    split
    · exact h u hu
    · exact h u hu
  · rcases List.mem_append.mp hkv with hkv | hkv
    · exact h kv hkv
    · rw [List.mem_singleton.mp hkv]; exact hk
theorem okK_of {K : PySem.W.Frag} {S : Hp} {y : D} {v : V} {k : Key} (r : Rep K S y v) (h : keyOf y = some k) : okK k := by
  cases y <;> first
    | (cases h; done)
    | (cases h; exact trivial)
    | (cases h; exact r.2)
/-! ### o[i] = v -/
abbrev OpS := D → D → D → Mem → (Mem → Prop) → Prop
def GoodS (K : PySem.W.Frag) (r : TSet) (f : OpS) : Prop := ∀ (S : Hp) (M : Mem) (H : Hp) (x y z : V) (a b c : D) (Qd : Mem → Prop) (Q : Hp → Prop), Ok K S M H → Rep K S a x → Rep K S b y → Rep K S c z → f a b c M Qd → (∀ M2 H2, Qd M2 → Ok K S M2 H2 → Q H2) → r x y z H Q
@[simp ↓] def sPut : OpS := fun a b c M Q => match ownL M a with
  | some (p, xs) => ∃ i j, b = .int i ∧ ixN xs.length i = some j ∧ Q (put M p (.ml (xs.set j c)))
  | none => ∃ p kvs k, ownD M a = some (p, kvs) ∧ keyOf b = some k ∧ kvs.length < 100000 ∧ Q (put M p (.md (putD kvs k c)))
abbrev rPutS : TSet := fun o i v H Q => rSetL o i v H Q ∨ ∃ a H', o = .ref a ∧ DPut H a i v H' ∧ Q H'
theorem setDict {X : Cx} (hu : X.A.units + 1 < cLine) : PSet X (fun o i v H Q => ∃ a H', o = .ref a ∧ DPut H a i v H' ∧ Q H') := by
  intro pins s σ H o i v ov iv u Q I ro ri rv h
  obtain ⟨a, H', rfl, g, q⟩ := h
  obtain rfl : ov = .ref a := ro
  exact d_setItem hu I g ri rv fun s4 I4 => ⟨H', I4, q⟩
theorem setPut {X : Cx} (hu : X.A.units + 1 < cLine) : PSet X rPutS := fun pins s σ H o i v ov iv u Q I ro ri rv h =>
  h.elim (set_list pins s σ H o i v ov iv u Q I ro ri rv) (setDict hu pins s σ H o i v ov iv u Q I ro ri rv)
theorem good_put {K : PySem.W.Frag} : GoodS K rPutS sPut := by
  intro S M H x y z a b c Qd Q ok ra rb rc q k
  unfold sPut at q
  cases h : ownL M a with
  | some pp =>
    obtain ⟨p, xs⟩ := pp
    rw [h] at q
    obtain ⟨i, j, rfl, hj, q⟩ := q
    obtain ⟨rfl, rfl, hm, hS, us, hv, rl⟩ := ownL_rep ok ra h
    exact .inl ⟨p, us, i, j, rfl, rb, hv, by rw [rl.length]; exact hj, k _ _ q (ok.change (m := .ml (xs.set j c)) hS ⟨hS, _, upd_same, rl.set rc j⟩)⟩
  | none =>
    rw [h] at q
    obtain ⟨p, kvs, ky, h1, h2, hl, q⟩ := q
    obtain ⟨rfl, rfl, hm, hS, vs, hv, rk, hk⟩ := ownD_rep ok ra h1
    refine .inr ⟨p, upd H p (.dK (putK vs ky z)), rfl, .inl ⟨vs, ky, hv, keyOf_rep rb h2, sz_lt (by rw [rk.length]; exact hl), rfl⟩, k _ _ q (ok.change (m := .md (putD kvs ky c)) hS ⟨hS, _, upd_same, rk.put rc, putD_ok hk (okK_of rb h2)⟩)⟩
@[simp ↓] def gPut (wo wi : SE) : Asg := fun env d M Q X => wo env M (fun a M1 => wi env M1 (fun b M2 => sPut a b d M2 (fun M3 => Q env M3)) X) X
section
variable {X : Cx} {E : WK} {o i : Expr} {wo wi : SE} {pos : Pos}
theorem gw_sub (hu : X.A.units + 1 < cLine) (ho : EW X E o wo) (hi : EW X E i wi) (ha : ∀ v, assign (.Subscript o i pos) X.env v = (do
      let ov ← holding [v] (eval o X.env)
      let iv ← holding [v, ov] (eval i X.env)
      standAt pos
      holding [v, ov, iv] (setItem ov iv v)
      release [v, ov, iv] [])) : GW X E (.Subscript o i pos) (gPut wo wi) :=
  PG.imp (pg_sub ho hi (setPut hu) ha) fun v σ H Q ⟨S, env, M, d, Qs, Qx, ok, en, r, q, k, x⟩ => ⟨S, env, M, _, Qx, ok, en, q, fun a va S1 M1 H1 q1 e1 ok1 r1 =>
    ⟨S1, env, M1, _, Qx, ok1, en.mono e1, q1, fun b vb S2 M2 H2 q2 e2 ok2 r2 => good_put S2 M2 H2 va vb v a b d _ _ ok2 (r1.mono e2) r2 (r.mono (e1.trans e2)) q2 fun M3 H3 q3 ok3 => k _ _ _ S2 H3 q3 (e1.trans e2) ok3 (en.mono (e1.trans e2)), x.mono e1⟩, x⟩
end
end FL
set_option Elab.async false
set_option linter.all false
set_option maxRecDepth 100000
set_option maxHeartbeats 4000000
namespace FL
open PySem PySem.Spec PyProof.Rows L2 Evl
/-! ### slices, - -/
/-- part of a list, a tuple, a text -/
def cutD (xs : List D) (lo hi : Option Int) : List D := (xs.drop (HT.sIx xs.length 0 lo)).take (HT.sIx xs.length xs.length hi - HT.sIx xs.length 0 lo)
theorem RepL.cut {K : PySem.W.Frag} {S : Hp} {ds : List D} {xs : List V} (r : RepL K S ds xs) (lo hi : Option Int) : RepL K S (cutD ds lo hi) (cutV xs lo hi) := by
  unfold cutD cutV
  rw [r.length]
  exact (r.drop _).take _
@[simp ↓] def optI : Option SE → Sl → Mem → (Option Int → Mem → Prop) → QX → Prop
  | none => fun _ M Q _ => Q none M
  | some w => fun env M Q X => w env M (fun d M1 => match d with
    | .int i => Q (some i) M1
    | _ => False) X
@[simp ↓] def sCut (own : Bool) (d : D) (lo hi : Option Int) (M : Mem) (Q : QE) : Prop := match d with
  | .tup ds => Q (.tup (cutD ds lo hi)) M
  | .str z => z.length ≤ 100000 ∧ PyData.strOk (cutS z lo hi) = true ∧ Q (.str (cutS z lo hi)) M
  | d => ∃ xs, viewL M d = some xs ∧ fresh own (cutD xs lo hi) M Q
@[simp ↓] def wCut (own : Bool) (we : SE) (lo hi : Option SE) : SE := fun env M Q X => we env M (fun d M1 => optI lo env M1 (fun l M2 => optI hi env M2 (fun u M3 => sCut own d l u M3 Q) X) X) X
abbrev rCut (K : PySem.W.Frag) : V → Option Int → Option Int → Hp → VK → Prop := fun x lo hi H Q => rSlA K x lo hi H Q ∨ rSlL K x lo hi H Q ∨ rSlS x lo hi H Q
section
variable {X : Cx} {E : WK} {e : Expr} {lo hi : Option Expr} {we : SE} {wl wh : Option SE} {pos p2 : Pos}
def tO (K : PySem.W.Frag) (E : WK) (w : Sl → Mem → (Option Int → Mem → Prop) → QX → Prop) : TO := fun σ H Q => ∃ S env M Qd Qx, Ok K S M H ∧ EnvR K S env σ ∧ w env M Qd Qx ∧ (∀ o S2 M2 H2, Qd o M2 → Ex S S2 → Ok K S2 M2 H2 → Q o H2) ∧ kX K E S σ Qx
abbrev OW (X : Cx) (E : WK) (o : Option Expr) (w : Sl → Mem → (Option Int → Mem → Prop) → QX → Prop) : Prop := PO X o (tO X.K E w)
theorem PO.imp {o : Option Expr} {t t' : TO} (h : PO X o t) (w : ∀ σ H Q, t' σ H Q → t σ H Q) : PO X o t' := ⟨fun pins s σ H Q I q => h.run pins s σ H Q I (w σ H Q q)⟩
theorem ow_none : OW X E none (optI none) := PO.imp po_none fun σ H Q ⟨S, env, M, Qd, Qx, ok, en, q, k, x⟩ => k _ S M H q (Ex.refl _) ok
theorem ow_some (h : EW X E e we) : OW X E (some e) (optI (some we)) := PO.imp (po_some h) fun σ H Q ⟨S, env, M, Qd, Qx, ok, en, q, k, x⟩ => ⟨S, env, M, _, Qx, ok, en, q, fun d v S1 M1 H1 q1 e1 ok1 r1 => by
  cases d <;> try exact q1.elim
  exact ⟨_, r1, k _ S1 M1 H1 q1 e1 ok1⟩, x⟩
theorem slCut : SlR X (rCut X.K) := sl_tupA.or (sl_list.or sl_str)
theorem good_cut {K : PySem.W.Frag} {own : Bool} {S H : Hp} {M : Mem} {d : D} {v : V} {l u : Option Int} {Qd : QE} {Q : VK} (ok : Ok K S M H) (r : Rep K S d v) (q : sCut own d l u M Qd) (k : kE K S Qd Q) : rCut K v l u H Q := by
  have lists : (∃ xs, viewL M d = some xs ∧ fresh own (cutD xs l u) M Qd) → rCut K v l u H Q := by
    rintro ⟨xs, h1, q⟩
    obtain ⟨a, us, rfl, e1, r1⟩ := view_rep ok r h1
    exact .inr (.inl ⟨a, us, rfl, sq_of e1, fun p hp => k.fresh ok hp q (r1.cut l u)⟩)
  cases d with
  | tup ds =>
    obtain ⟨a, us, rfl, hq, r1⟩ := r
    refine .inl ⟨a, us, rfl, ex_t ok.ex hq, fun hw => ?_, fun _ p hp => k.tup ok hp q (r1.cut l u)⟩
    have : cutD ds l u = ds := by
      unfold cutD
      rw [← r1.length, hw.1, hw.2]
      simp [r1.length]
    have q : Qd (.tup (cutD ds l u)) M := q
    rw [this] at q
    exact k.here ok q ⟨a, us, rfl, hq, r1⟩
  | str z => exact .inr (.inr ⟨z, r.1, sz_of q.1, k.here ok q.2.2 ⟨rfl, q.2.1⟩⟩)
  | _ => exact lists q
theorem ew_cut {own : Bool} (he : EW X E e we) (hl : OW X E lo (optI wl)) (hh : OW X E hi (optI wh)) : EW X E (.Subscript e (.Slice lo hi none p2) pos) (wCut own we wl wh) :=
  PE.imp (pe_slice slCut he hl hh) fun σ H Q ⟨S, env, M, Qd, Qx, ok, en, q, k, x⟩ => ⟨S, env, M, _, Qx, ok, en, q, fun d v S1 M1 H1 q1 e1 ok1 r1 =>
    ⟨S1, env, M1, _, Qx, ok1, en.mono e1, q1, fun l S2 M2 H2 q2 e2 ok2 => ⟨S2, env, M2, _, Qx, ok2, en.mono (e1.trans e2), q2, fun u S3 M3 H3 q3 e3 ok3 => good_cut ok3 (r1.mono (e2.trans e3)) q3 (k.mono ((e1.trans e2).trans e3)), x.mono (e1.trans e2)⟩, x.mono e1⟩, x⟩
/-- xs[::-1] of a list -/
@[simp ↓] def wRev (own : Bool) (we : SE) : SE := fun env M Q X => we env M (fun d M1 => ∃ xs, viewL M1 d = some xs ∧ fresh own xs.reverse M1 Q) X
theorem ew_rev {own : Bool} {k : Tok} {p1 p3 : Pos} (he : EW X E e we) : EW X E (.Subscript e (.Slice none none (some (.UnaryOp .USub (.Constant (.int 1) k p1) p2)) p3) pos) (wRev own we) :=
  PE.imp (pe_revL he) fun σ H Q ⟨S, env, M, Qd, Qx, ok, en, q, k, x⟩ => ⟨S, env, M, _, Qx, ok, en, q, fun d v S1 M1 H1 q1 e1 ok1 r1 => by
    obtain ⟨xs, h1, q1⟩ := q1
    obtain ⟨a, us, rfl, e2, r2⟩ := view_rep ok1 r1 h1
    exact ⟨a, us, rfl, sq_of e2, fun p hp => (k.mono e1).fresh ok1 hp q1 r2.reverse⟩, x⟩
theorem ew_neg (he : EW X E e we) : EW X E (.UnaryOp .USub e pos) (wNeg we) :=
  PE.imp (pe_un un_neg he) fun σ H Q ⟨S, env, M, Qd, Qx, ok, en, q, k, x⟩ => ⟨S, env, M, _, Qx, ok, en, q, fun d v S1 M1 H1 q1 e1 ok1 r1 => by
    cases d <;> try exact q1.elim
    exact ⟨_, r1, k _ _ S1 M1 H1 q1 e1 ok1 rfl⟩, x⟩
@[simp ↓] def sPow : Op2 := sInt CPow fun i j => .int (i ^ j.toNat)
theorem good_pow {K : PySem.W.Frag} : Good2 K (rI CPow fun i j => V.int (i ^ j.toNat)) sPow := good_I fun _ _ => rfl
end
/-! ### isinstance -/
inductive Ty where
  | str | int | bool | tuple | list
def Ty.s : Ty → String
  | .str => "str" | .int => "int" | .bool => "bool" | .tuple => "tuple" | .list => "list"
def isTy (M : Mem) (t : Ty) (d : D) : Bool := match t, deref M d with
  | .str, .str _ => true
  | .int, .int _ => true
  | .int, .bl _ => true
  | .bool, .bl _ => true
  | .tuple, .tup _ => true
  | .list, .lst _ => true
  | _, _ => false
def tyOf (d : D) : Option String := match d with
  | .non => some "NoneType" | .bl _ => some "bool" | .int _ => some "int" | .str _ => some "str" | .tup _ => some "tuple" | .lst _ => some "list" | _ => none
@[simp] theorem tyOf_non : tyOf .non = some "NoneType" := rfl
@[simp] theorem tyOf_bl {b : Bool} : tyOf (.bl b) = some "bool" := rfl
@[simp] theorem tyOf_int {b : Int} : tyOf (.int b) = some "int" := rfl
@[simp] theorem tyOf_str {b : Str} : tyOf (.str b) = some "str" := rfl
@[simp] theorem tyOf_tup {b : List D} : tyOf (.tup b) = some "tuple" := rfl
@[simp] theorem tyOf_lst {b : List D} : tyOf (.lst b) = some "list" := rfl
theorem tyX_of {K : PySem.W.Frag} {H : Hp} {d : D} {v : V} (r : Rep K H d v) {t : String} (h : tyOf d = some t) : TyX K H v (.type t) := by
  cases d with
  | non => cases h; obtain rfl := r; exact .base .non
  | bl b => cases h; obtain rfl := r; exact .base (.bl b)
  | int b => cases h; obtain rfl := r; exact .base (.int b)
  | str b => cases h; rw [r.1]; exact .base (.str b)
  | tup ds =>
    cases h
    obtain ⟨a, xs, rfl, hq, _⟩ := r
    rcases hq with (h | ⟨o, h⟩) | ⟨o, its, n, h, hc, _⟩
    · exact .base (.tup h)
    · exact .fTuple h
    · exact .kTuple h hc
  | lst ds =>
    cases h
    obtain ⟨a, xs, rfl, hq, _⟩ := r
    exact .base (.lst hq)
  | ptr a => cases h
  | scr a => cases h
theorem kit_ok {M : Mem} {t : Ty} {d : D} {ts : String} (h : tyOf (deref M d) = some ts) : kitB ts t.s = some (isTy M t d) := by
  unfold isTy
  cases e : deref M d <;> rw [e] at h <;> first | (cases h; done) | (cases h; cases t <;> (dsimp only [Ty.s]; decide +kernel))
/-- isinstance(e, T), isinstance(e, (T, U)) -/
@[simp ↓] def wIs1 (t : Ty) (we : SE) : SE := fun env M Q X => we env M (fun d M1 => (tyOf (deref M1 d)).isSome = true ∧ Q (.bl (isTy M1 t d)) M1) X
@[simp ↓] def wIs2 (t u : Ty) (we : SE) : SE := fun env M Q X => we env M (fun d M1 => (tyOf (deref M1 d)).isSome = true ∧ Q (.bl (isTy M1 t d || isTy M1 u d)) M1) X
def tyName (x : Str) : Option Ty := if x = "str" then some .str else if x = "int" then some .int else if x = "bool" then some .bool else if x = "tuple" then some .tuple else if x = "list" then some .list else none
theorem tyName_ok {x : Str} {t : Ty} (h : tyName x = some t) : x ∈ (["str", "int", "bool", "tuple", "list"] : List Str) ∧ bootBuiltins x = some (.type t.s) ∧ x ≠ "__name__" ∧ (x == ("__debug__" : Str)) = false := by
  unfold tyName at h
  split at h
  · cases h; subst_vars; decide +kernel
  · split at h
    · cases h; subst_vars; decide +kernel
    · split at h
      · cases h; subst_vars; decide +kernel
      · split at h
        · cases h; subst_vars; decide +kernel
        · split at h
          · cases h; subst_vars; decide +kernel
          · cases h
section
variable {X : Cx} {E : WK} {a : Expr} {x z : Str} {we : SE} {pos p p2 p3 p4 : Pos} {t u : Ty} {k1 : Nat}
theorem ew_isi (hg : Gl X "isinstance") (hm : X.mg "isinstance" = none) (hg2 : Gl X x) (hm2 : X.mg x = none) (ht : tyName x = some t) (hs : starred a = false) (ha : EW X E a we) : EW X E (.Call (.Name "isinstance" p) [a, .Name x p2] [] pos) (wIs1 t we) := by
  obtain ⟨_, hv, hn, hd⟩ := tyName_ok ht
  refine PE.imp (pe_callB call_isi hg hm boot_isinstance (pa_cons ha (pa_cons (pe_bltn hg2 hm2 hv (v := .ty t.s) rfl hn hd) pa_nil (star_cons rfl _)) (star_cons hs _)) (by decide) (by decide) (star_cons hs _) (star_none (es := [.Name x p2]) _ rfl)) fun σ H Q ⟨S, env, M, Qd, Qx, ok, en, q, k, y⟩ => ⟨S, env, M, _, Qx, ok, en, q, fun d v S1 M1 H1 q1 e1 ok1 r1 => ?_, y⟩
  obtain ⟨h1, q1⟩ := q1
  obtain ⟨ts, hts⟩ := Option.isSome_iff_exists.mp h1
  exact ⟨v, .ty t.s, _, _, isTy M1 t d, rfl, .ty t.s, tyX_of (deref_rep ok1 r1) hts, kit_ty (kit_ok hts), k _ _ S1 M1 H1 q1 e1 ok1 rfl⟩
theorem ew_isi2 (hg : Gl X "isinstance") (hm : X.mg "isinstance" = none) (hg2 : Gl X x) (hm2 : X.mg x = none) (ht : tyName x = some t) (hg3 : Gl X z) (hm3 : X.mg z = none) (ht3 : tyName z = some u) (hs : starred a = false) (ha : EW X E a we) :
    EW X E (.Call (.Name "isinstance" p) [a, .Tuple [.Name x p2, .Name z p3] k1 p4] [] pos) (wIs2 t u we) := by
  obtain ⟨_, hv, hn, hd⟩ := tyName_ok ht
  obtain ⟨_, hv3, hn3, hd3⟩ := tyName_ok ht3
  refine PE.imp (pe_callB call_isiT hg hm boot_isinstance (pa_cons ha (pa_cons (pe_tup (pa_cons (pe_bltn hg2 hm2 hv (v := .ty t.s) rfl hn hd) (pa_cons (pe_bltn hg3 hm3 hv3 (v := .ty u.s) rfl hn3 hd3) pa_nil (star_cons rfl _)) (star_cons rfl _))) pa_nil (star_cons rfl _)) (star_cons hs _)) (by decide) (by decide) (star_cons hs _) (star_none (es := [.Tuple [.Name x p2, .Name z p3] k1 p4]) _ rfl)) fun σ H Q ⟨S, env, M, Qd, Qx, ok, en, q, k, y⟩ => ⟨S, env, M, _, Qx, ok, en, q, fun d v S1 M1 H1 q1 e1 ok1 r1 => ?_, y⟩
  obtain ⟨h1, q1⟩ := q1
  obtain ⟨ts, hts⟩ := Option.isSome_iff_exists.mp h1
  refine ⟨by show 2 ≤ sizeLine; decide, fun pp hp => ?_⟩
  have e2 : Ex H1 (upd H1 pp (.tup [.ty t.s, .ty u.s])) := Ex.new hp
  have e3 : Ex S1 (upd H1 pp (.tup [.ty t.s, .ty u.s])) := ok1.ex.trans e2
  refine ⟨v, pp, [.ty t.s, .ty u.s], _, [.type t.s, .type u.s], isTy M1 t d || isTy M1 u d, rfl, upd_same, .cons (.ty t.s) (.cons (.ty u.s) .nil), tyX_of ((deref_rep ok1 r1).mono e2) hts, ?_, k _ _ S1 M1 _ q1 e1 (ok1.grew (Ex.refl _) e3 e2 fun _ z1 z2 => absurd z2 z1) rfl⟩
  refine kitAny_cons (kit_ty (kit_ok hts)) (fun e => ?_) (fun e => by rw [e]; rfl)
  refine kitAny_cons (kit_ty (kit_ok hts)) (fun e2 => ?_) (fun e2 => by rw [e2, Bool.or_true])
  rw [e, e2]; exact kitAny_nil
end
end FL
set_option Elab.async false
set_option linter.all false
set_option maxRecDepth 100000
set_option maxHeartbeats 4000000
namespace FL
open PySem PySem.Spec PyProof.Rows L2 Evl
/-! xs[a:b] = ys, b beyond the end too -/
section
variable {prog : Program} {w : World} {A : Around} {E : Value → Shared → Prop} {s : Shared}
theorem bounds_clip {a c n : Nat} (hac : a ≤ c) (ha : a ≤ n) : sliceBounds (some (a : Int)) (some (c : Int)) none n = ((a : Int), ((min c n : Nat) : Int), 1) := by
  have h1 : ¬ ((a : Int) < 0) := by omega
  have h2 : ¬ ((c : Int) < 0) := by omega
  simp only [sliceBounds, Option.getD_none, h1, h2, if_false, show (1 : Int) > 0 by decide, if_true]
  congr 1
  · omega
  · congr 1; omega
set_option maxRecDepth 100000 in
theorem put_slice {l b sl : Addr} {items new : Array Value} {n n2 : Nat} {vl vu : Value} {a c : Nat} {Q : Unit → Shared → Prop} (e : s.heap.get? l = some { cls := .type "list", data := .seq items n }) (e2 : s.heap.get? b = some { cls := .type "list", data := .seq new n2 }) (ne : l ≠ b)
    (hs : s.heap.IsSliceOf sl vl vu .none) (pl : IsPart vl (some (a : Int))) (pu : IsPart vu (some (c : Int))) (hac : a ≤ c) (ha : a ≤ items.size) (size : items.size + new.size ≤ sizeLine)
    (h : Q () { s with heap := s.heap.update l (Obj.mapSeq fun xs => xs.extract 0 a ++ new ++ xs.extract (min c items.size) xs.size) }) : wpAny (model prog w) A (setItem (.ref l) (.ref sl) (.ref b)) Q E s := by
  have il : s.heap.IsList l items := PySem.IsL.isList e
  have ib : s.heap.IsList b new := PySem.IsL.isList e2
  obtain ⟨os, hos, hcs, hds⟩ := id hs
  have ty : s.TypeIs (.ref sl) "slice" := ⟨os, hos, hcs⟩
  have other : Builtin.List.listSameRef (.ref l) (.ref b) = false := by unfold Builtin.List.listSameRef; exact beq_eq_false_iff_ne.mpr ne
  have big : (max (a : Int) ((min c items.size : Nat) : Int)).toNat = min c items.size := by omega
  have fits : ((fun xs : Array Value => xs.extract 0 a ++ new ++ xs.extract (min c items.size) xs.size) items).size ≤ sizeLine + 1 := by
    simp only [Array.size_append, Array.size_extract]; omega
  unfold setItem
  try with_reducible refine wpAny_holding ?_
  first | refine wpAny_bind (wpAny_pure ?_) | skip
  refine wpAny_bind (wpAny_sequenceKey il.typeIs (by decide) (wpAny_bind (wpAny_callSpecial?_slot (name := Str.ofString "__setitem__") il.typeIs slot_list_setitem (wpAny_call_entry slot_list_setitem il.typeIs entry_list_setitem ?_ (args_list_setitem _ _ _)))))
  show wpAny _ _ (Builtin.List.listSubscript? (.ref sl) >>= _) _ _ s
  refine wpAny_bind ?_
  unfold Builtin.List.listSubscript?
  refine wpAny_bind (wpAny_specialOf ty slice_no_index ?_)
  simp only [Option.isNone_none, if_true]
  refine wpAny_pure ?_
  show wpAny _ _ (typeOf (.ref sl) >>= _) _ _ s
  refine wpAny_bind (wpAny_typeOf ty ?_)
  first | rw [if_neg (by decide)] | refine PySem.W.KFB.if_not (by decide) ?_
  rw [listSliceParts_eq]
  refine wpAny_bind (wpAny_bind (wpAny_field hos hds (x := .none) rfl (wpAny_bind (wpAny_listPart .none ?_))))
  rw [if_neg (show ¬ ((rawPart none == rawInt 0) = true) from Bool.false_ne_true)]
  refine wpAny_bind (wpAny_field hos hds (x := vl) rfl (wpAny_bind (wpAny_listPart pl (wpAny_bind (wpAny_field hos hds (x := vu) rfl (wpAny_bind (wpAny_listPart pu (wpAny_pure ?_))))))))
  first | simp only [other, Bool.false_eq_true, if_false] | refine PySem.W.KFB.if_not other ?_
  refine wpAny_bind (m := Builtin.List.listAllItems (.ref b) "must assign iterable to extended slice") ?_
  unfold Builtin.List.listAllItems
  refine wpAny_bind (wpAny_typeOf ib.typeIs ?_)
  first | refine PySem.W.KFB.if_so (by decide) ?_ | rw [if_pos (by decide)]
  unfold Builtin.List.listItems
  refine wpAny_bind (wpAny_seqItems e2 rfl (wpAny_pure (wpAny_bind (wpAny_bind (wpAny_seqItems e rfl (wpAny_pure ?_))))))
  refine wpAny_bind (wpAny_of_eq ((sliceIndices_raw (some (a : Int)) (some (c : Int)) none items.size (by simp)).trans (congrArg (Pure.pure : Int × Int × Int → Sem (Int × Int × Int)) (bounds_clip hac ha))) ?_)
  show wpAny _ _ (if ((1 : Int) == 1) = true then _ else _) _ _ s
  rw [if_pos (by decide)]
  refine wpAny_bind (wpAny_rule ?_)
  first | simp only [notLongL size, Bool.false_eq_true, if_false] | refine PySem.W.KFB.if_not (notLongL size) ?_
  first | refine wpAny_bind (wpAny_pure ?_) | skip
  show wpAny _ _ (updateSeq l (fun xs => xs.extract 0 ((a : Int)).toNat ++ new ++ xs.extract (max (a : Int) ((min c items.size : Nat) : Int)).toNat xs.size) >>= _) _ _ s
  rw [big, Int.toNat_natCast]
  refine wpAny_bind (wpAny_updateSeq (hz := Nat.le_trans (Nat.le_add_right _ _) size) (_hz' := fits) e rfl (wpAny_bind (wpAny_letGo ?_)))
  first
    | exact wpAny_bind (wpAny_pure (wpAny_pure ⟨.none, rfl, wpAny_pure h⟩))
    | exact wpAny_pure ⟨.none, rfl, wpAny_pure h⟩
end
section
variable {X : Cx} {o value : Expr} {lo hi : Option Expr} {to tv : TE} {tl th : TO} {pos pos' p2 : Pos}
def tSetSl (tv to : TE) (tl th : TO) : TS := fun D σ H => tv σ H fun v H1 => to σ H1 fun x H2 => tl σ H2 fun l H3 => th σ H3 fun u H4 => ∃ (a b : Addr) (xs ys : List V) (n m : Nat), x = .ref a ∧ v = .ref b ∧ a ≠ b ∧ H4 a = some (.lst xs) ∧ H4 b = some (.lst ys) ∧ l = some (n : Int) ∧ u = some (m : Int) ∧
  n ≤ m ∧ n ≤ xs.length ∧ xs.length + ys.length ≤ sizeLine ∧ D.nx σ (upd H4 a (.lst (xs.take n ++ ys ++ xs.drop m)))
theorem ps_setSl (ho : PE X o to) (hl : PO X lo tl) (hu : PO X hi th) (hv : PE X value tv) (hs : swapsWith value (some (.Subscript o (.Slice lo hi none p2) pos')) pos.line X.env = Pure.pure false := by rfl) : PS X (.Assign [.Subscript o (.Slice lo hi none p2) pos'] value pos) (tSetSl tv to tl th) := by
  refine ⟨fun pins s σ H D I h => ?_⟩
  refine wpAny_Assign_Subscript (thn (hv.run pins s σ H _ I h) fun r s1 ⟨v, H1, I1, rv, q1⟩ => thn (ho.run pins s1 σ H1 _ I1 q1) fun ov s2 ⟨x, H2, I2, rx, q2⟩ => ?_) hs
  refine wpAny_Slice (thn (hl.run pins s2 σ H2 _ I2 q2) fun vl s3 ⟨l, H3, I3, pl, q3⟩ => thn (hu.run pins s3 σ H3 _ I3 q3) fun vu s4 ⟨u, H4, I4, pu, q4⟩ => ?_)
  rw [evalPart_none]
  refine wpAny_pure ?_
  obtain ⟨a, b, xs, ys, n, m, ex, ev, ne, hA, hB, el, eu, hnm, hn, hz, q⟩ := q4
  subst ex ev el eu
  obtain rfl : ov = Value.ref a := rx
  obtain rfl : r = Value.ref b := rv
  have I5 : Inv X pins σ H4 { s4 with heap := s4.heap.push { cls := .type "slice", data := .fields #[vl, vu, .none] } } := I4.kept (t' := s4.toks) fun b ob q => Heap.get?_push_of_some _ q
  obtain ⟨z, its, k1, r1, hl1, e1⟩ := I5.lstM hA
  obtain ⟨z2, its2, k2, r2, hl2, e2⟩ := I5.lstM hB
  have hsz : its.toArray.size = xs.length := by rw [List.size_toArray]; exact r1.length.symm
  have hsz2 : its2.toArray.size = ys.length := by rw [List.size_toArray]; exact r2.length.symm
  refine put_slice (a := n) (c := m) e1 e2 ne (Heap.IsSliceOf.new ..) pl pu hnm (by rw [hsz]; exact hn) (by rw [hsz, hsz2]; exact hz) ⟨σ, _, ?_, q⟩
  refine I5.lset (its' := its.take n ++ its2 ++ its.drop m) (t' := s4.toks) hA e1 ?_ (Vals.append (Vals.append (r1.take _) r2) (r1.drop _)) ?_
  · rw [splice_eq, List.size_toArray]
    congr 2
    by_cases h : m ≤ its.length
    · rw [Nat.min_eq_left h]
    · rw [Nat.min_eq_right (by omega), List.drop_length, List.drop_eq_nil_of_le (by omega)]
  · rw [List.length_append, List.length_append, List.length_take, List.length_drop]
    omega
end

/-! ### sorted -/
def LtSorted (ys : List Str) : Prop := sortedS ys = true
@[simp ↓] def sSorted (own : Bool) : OpN := fun ds M Q => match ds with
  | [d] => (∃ (kvs : List (Key × D)) (ks : List Str), viewD M d = some kvs ∧ kvs.map (·.1) = ks.map Sum.inr ∧ ks.length < 64 ∧ ∀ ys : List Str, ys.Perm ks → sortedS ys = true → fresh own (ys.map D.str) M Q) ∨
    (∃ (kvs : List (Key × D)) (ks : List Int), viewD M d = some kvs ∧ kvs.map (·.1) = ks.map Sum.inl ∧ ks.length < 64 ∧ ∀ ys : List Int, ys.Perm ks → ys.Pairwise (· ≤ ·) → fresh own (ys.map D.int) M Q) ∨
    (∃ ks : List Str, viewL M d = some (ks.map D.str) ∧ ks.length < 64 ∧ ∀ ys : List Str, ys.Perm ks → sortedS ys = true → fresh own (ys.map D.str) M Q) ∨
    ∃ ks : List Int, viewL M d = some (ks.map D.int) ∧ ∀ ys : List Int, ys.Perm ks → ys.Pairwise (· ≤ ·) → fresh own (ys.map D.int) M Q
  | _ => False
def rSortA (K : PySem.W.Frag) : List V → Hp → VK → Prop := fun xs H Q => ((∃ (a : Addr) (kvs : List (Key × V)) (ks : List Str), xs = [.ref a] ∧ Rd H a (.dK kvs) ∧ kvs.map (·.1) = ks.map Sum.inr ∧ ks.length < 64 ∧
    ∀ ys p, ys.Perm ks → sortedS ys = true → H p = none → Q (.ref p) (upd H p (.lst (ys.map V.str)))) ∨ (∃ (a : Addr) (kvs : List (Key × V)) (ks : List Int), xs = [.ref a] ∧ Rd H a (.dK kvs) ∧ kvs.map (·.1) = ks.map Sum.inl ∧ ks.length < 64 ∧
    ∀ (ys : List Int) (p : Addr), ys.Perm ks → ys.Pairwise (· ≤ ·) → H p = none → Q (.ref p) (upd H p (.lst (ys.map V.int))))) ∨ rSortedS K xs H Q ∨ rSortedI K xs H Q
theorem crSorted {X : Cx} (hc : X.calm = true) : CallR X (.builtin "sorted") (rSortA X.K) := CallR.or (CallR.or (call_sortedD hc) (call_sortedDI hc)) (CallR.or cr_sortedS cr_sortedI)
theorem RepKV.keysE {K : PySem.W.Frag} {S : Hp} : ∀ {kvs : List (Key × D)} {vs : List (Key × V)}, RepKV K S kvs vs → vs.map (·.1) = kvs.map (·.1)
  | [], _, h => by rw [show _ = [] from h]; rfl
  | p :: r, _, ⟨x, t, e, _, h2⟩ => by rw [e, List.map_cons, List.map_cons, RepKV.keysE h2]
theorem repL_mkI {K : PySem.W.Frag} {S : Hp} : ∀ ys : List Int, RepL K S (ys.map D.int) (ys.map V.int)
  | [] => rfl
  | y :: t => RepL.cons rfl (repL_mkI t)
theorem repL_mkS {K : PySem.W.Frag} {S : Hp} : ∀ {ys : List Str}, (∀ y ∈ ys, PyData.strOk y = true) → RepL K S (ys.map D.str) (ys.map V.str)
  | [], _ => rfl
  | y :: t, h => RepL.cons ⟨rfl, h y List.mem_cons_self⟩ (repL_mkS fun z q => h z (List.mem_cons_of_mem _ q))
theorem repL_strOk {K : PySem.W.Frag} {S : Hp} : ∀ {bs : List Str} {xs : List V}, RepL K S (bs.map D.str) xs → ∀ y ∈ bs, PyData.strOk y = true
  | [], _, _, y, h => nomatch h
  | b :: bs, _, ⟨x, r, e1, h1, h2⟩, y, h => by
    rcases List.mem_cons.mp h with rfl | h
    · exact h1.2
    · exact repL_strOk h2 y h
theorem viewD_okK {K : PySem.W.Frag} {S H : Hp} {M : Mem} {d : D} {v : V} {kvs : List (Key × D)} (ok : Ok K S M H) (r : Rep K S d v) (h : viewD M d = some kvs) : ∀ kv ∈ kvs, okK kv.1 := by
  cases d with
  | ptr a =>
    cases hm : M a with
    | none => simp [viewD, hm] at h
    | some m =>
      cases m with
      | md es => simp [viewD, hm] at h; subst h; exact (ok.own a _ hm).2.choose_spec.2.2
      | lk es => simp [viewD, hm] at h; subst h; obtain ⟨od, vs, _, hv, r2, hk⟩ := ok.own a _ hm; exact hk
      | _ => simp [viewD, hm] at h
  | _ => cases h
theorem good_sorted {K : PySem.W.Frag} {own : Bool} : GoodF K (rSortA K) (sSorted own) := by
  intro S M H xs ds Qd Q ok r q k
  match ds, q with
  | [d], q =>
    obtain ⟨x, rfl, rx⟩ := r.one'
    rcases q with ⟨kvs, ks, h1, h2, h3, q⟩ | ⟨kvs, ks, h1, h2, h3, q⟩ | ⟨ks, h1, h3, q⟩ | ⟨ks, h1, q⟩
    · obtain ⟨a, vs, rfl, rd, rk⟩ := viewD_rep ok rx h1
      refine .inl (.inl ⟨a, vs, ks, rfl, rd, by rw [rk.keysE, h2], h3, fun ys p hp hs hf => k.fresh ok hf (q ys hp hs) (repL_mkS fun y hy => ?_)⟩)
      have hy2 : (Sum.inr y : Key) ∈ kvs.map (·.1) := by rw [h2]; exact List.mem_map.mpr ⟨y, hp.mem_iff.mp hy, rfl⟩
      obtain ⟨kv, hkv, e⟩ := List.mem_map.mp hy2
      have := viewD_okK ok rx h1 kv hkv
      rw [e] at this
      exact this
    · obtain ⟨a, vs, rfl, rd, rk⟩ := viewD_rep ok rx h1
      exact .inl (.inr ⟨a, vs, ks, rfl, rd, by rw [rk.keysE, h2], h3, fun ys p hp hs hf => k.fresh ok hf (q ys hp hs) (repL_mkI ys)⟩)
    · obtain ⟨a, us, rfl, e1, r1⟩ := view_rep ok rx h1
      have hk := repL_strOk r1
      rw [repL_strs r1] at e1
      exact .inr (.inl ⟨a, ks, rfl, sq_of e1, h3, fun ys p hp hs hf => k.fresh ok hf (q ys hp hs) (repL_mkS fun y hy => hk y (hp.mem_iff.mp hy))⟩)
    · obtain ⟨a, us, rfl, e1, r1⟩ := view_rep ok rx h1
      rw [repL_ints r1] at e1
      exact .inr (.inr ⟨a, ks, rfl, sq_of e1, fun ys p hp hs hf => k.fresh ok hf (q ys hp hs) (repL_mkI ys)⟩)
/-! ### dicts written out, dict.update -/
def mergeD (kvs more : List (Key × D)) : List (Key × D) := more.foldl (fun acc kv => putD acc kv.1 kv.2) kvs
theorem RepKV.merge {K : PySem.W.Frag} {S : Hp} : ∀ {more : List (Key × D)} {rs : List (Key × V)} {kvs : List (Key × D)} {vs : List (Key × V)}, RepKV K S more rs → RepKV K S kvs vs → RepKV K S (mergeD kvs more) (mergeK vs rs)
  | [], _, _, _, h, g => by rw [show _ = [] from h]; exact g
  | p :: r, _, _, _, ⟨x, t, e, h1, h2⟩, g => by
    rw [e]
    exact RepKV.merge (more := r) (rs := t) h2 (g.put h1)
theorem mergeD_ok : ∀ {more kvs : List (Key × D)}, (∀ kv ∈ kvs, okK kv.1) → (∀ kv ∈ more, okK kv.1) → ∀ kv ∈ mergeD kvs more, okK kv.1
  | [], _, h, _ => h
  | p :: r, _, h, g => mergeD_ok (more := r) (putD_ok h (g p List.mem_cons_self)) fun kv q => g kv (List.mem_cons_of_mem _ q)
@[simp ↓] def mUpdate : OpM := fun d ds M Q => match ds with
  | [e] => ∃ a b kvs more, d = .ptr a ∧ e = .ptr b ∧ a ≠ b ∧ M a = some (.md kvs) ∧ M b = some (.md more) ∧ kvs.length + more.length ≤ 100000 ∧ Q .non (put M a (.md (mergeD kvs more)))
  | _ => False
def rUpdate : V → List V → Hp → VK → Prop := fun x xs H Q => ∃ (a b : Addr) (kvs more : List (Key × V)), x = .ref a ∧ xs = [.ref b] ∧ a ≠ b ∧ H a = some (.dK kvs) ∧ H b = some (.dK more) ∧ kvs.length + more.length ≤ sizeLine ∧ Q .non (upd H a (.dK (mergeK kvs more)))
theorem mt_update {X : Cx} : MtR X "dict.update" rUpdate := by
  intro pins s σ H x xs v us Q I rx rxs h
  obtain ⟨a, b, kvs, more, rfl, rfl, hne, ha, hb, hz, q⟩ := h
  obtain rfl : v = .ref a := rx
  obtain ⟨u, rfl, ru⟩ := vals1 rxs
  obtain rfl : u = .ref b := ru
  obtain ⟨z1, hd1, vs1, r1, dd1⟩ := dk_of I.hok ha
  obtain ⟨z2, hd2, vs2, r2, dd2⟩ := dk_of I.hok hb
  refine call_meetsIn PySem.F.slot_dict_update dd1.typeIs PySem.F.entry_dict_update (PySem.F.args_dict_update_2 _ _) (meets_dict_update (mixKind X.prog X.w) a b hne hd2) ⟨vs1, vs2, dd1, dd2, by rw [← r1.length, ← r2.length]; exact hz, fun h' dd' _ hs => ?_⟩
  have he : ∃ q, h'.get? a = some q := let ⟨q, _, _, hq, _⟩ := dd'; ⟨q, hq⟩
  have hz' : (mergeK kvs more).length ≤ sizeLine := Nat.le_trans (length_mergeK more kvs) hz
  exact ⟨.non, _, d_write I (by rw [ha]; exact True.intro) hs he (dk_new hz' hd1 (KV.merge r2 r1) dd'), rfl, q⟩
theorem good_update {K : PySem.W.Frag} : GoodM K rUpdate mUpdate := by
  intro S M H x xs d ds Qd Q ok rx r q k
  match ds, q with
  | [e], ⟨a, b, kvs, more, e1, e2, hne, ha, hb, hz, qz⟩ =>
    subst e1 e2
    obtain ⟨y, rfl, ry⟩ := r.one'
    obtain rfl : x = .ref a := rx
    obtain rfl : y = .ref b := ry
    obtain ⟨hS, vs, hv, rk, hk⟩ := ok.own a _ ha
    obtain ⟨hS2, ws, hw, rk2, hk2⟩ := ok.own b _ hb
    refine ⟨a, b, vs, ws, rfl, rfl, hne, hv, hw, sz_of (by rw [rk.length, rk2.length]; exact hz), ?_⟩
    exact k _ _ _ _ _ qz (Ex.refl S) (ok.change hS ⟨hS, _, upd_same, rk2.merge rk, mergeD_ok hk hk2⟩) rfl
@[simp ↓] def pairsW : List (SE × SE) → Sl → Mem → (List (D × D) → Mem → Prop) → QX → Prop
  | [], _, M, Q, _ => Q [] M
  | (a, b) :: r, env, M, Q, X => a env M (fun k M1 => b env M1 (fun v M2 => pairsW r env M2 (fun ps M3 => Q ((k, v) :: ps) M3) X) X) X
def keysOf : List (D × D) → Option (List (Key × D))
  | [] => some []
  | p :: r => match keyOf p.1, keysOf r with
    | some k, some l => some ((k, p.2) :: l)
    | _, _ => none
@[simp ↓] def wDisp (ps : List (SE × SE)) : SE := fun env M Q X => ∀ a, M a = none → pairsW ps env (put M a (.md [])) (fun kds M2 => M2 a = some (.md []) ∧ ∃ kvs, keysOf kds = some kvs ∧ kvs.length ≤ 15 ∧ Q (.ptr a) (put M2 a (.md (mergeD [] kvs)))) X
def PRep (K : PySem.W.Frag) (S : Hp) : List (D × D) → List (V × V) → Prop
  | [], vs => vs = []
  | p :: r, vs => ∃ x y t, vs = (x, y) :: t ∧ Rep K S p.1 x ∧ Rep K S p.2 y ∧ PRep K S r t
theorem PRep.mono {K : PySem.W.Frag} {S S2 : Hp} (e : Ex S S2) : ∀ {ps : List (D × D)} {vs : List (V × V)}, PRep K S ps vs → PRep K S2 ps vs
  | [], _, h => h
  | _ :: _, _, ⟨x, y, t, h, h1, h2, h3⟩ => ⟨x, y, t, h, h1.mono e, h2.mono e, PRep.mono e h3⟩
theorem keysOf_rep {K : PySem.W.Frag} {S : Hp} : ∀ {ps : List (D × D)} {vs : List (V × V)} {kvs : List (Key × D)}, PRep K S ps vs → keysOf ps = some kvs → ∃ ks : List (Key × V), vs = ks.map (fun kv => (kV kv.1, kv.2)) ∧ RepKV K S kvs ks ∧ ∀ kv ∈ kvs, okK kv.1
  | [], _, _, h, e => by cases e; exact ⟨[], h, rfl, fun _ z => nomatch z⟩
  | p :: r, _, _, ⟨x, y, t, h, h1, h2, h3⟩, e => by
    unfold keysOf at e
    cases hk : keyOf p.1 with
    | none => rw [hk] at e; cases e
    | some k =>
      cases hr : keysOf r with
      | none => rw [hk, hr] at e; cases e
      | some l =>
        rw [hk, hr] at e
        cases e
        obtain ⟨ks, e1, e2, e3⟩ := keysOf_rep h3 hr
        refine ⟨(k, y) :: ks, by rw [h, e1, keyOf_rep h1 hk]; rfl, ⟨y, ks, rfl, h2, e2⟩, fun kv hkv => ?_⟩
        rcases List.mem_cons.mp hkv with rfl | hkv
        · exact okK_of h1 hk
        · exact e3 kv hkv
theorem pairs_read {K : PySem.W.Frag} {E : WK} {σ : L2.St} : ∀ {ps : List (SE × SE)} {H : Hp} {Q : List (V × V) → Hp → Prop} {S env M Qd Qx}, Ok K S M H → EnvR K S env σ → pairsW ps env M Qd Qx →
    (∀ ds vs S2 M2 H2, Qd ds M2 → Ex S S2 → Ok K S2 M2 H2 → PRep K S2 ds vs → Q vs H2) → kX K E S σ Qx → tPairs (ps.map fun p => (tE K E p.1, tE K E p.2)) σ H Q
  | [], H, Q, S, env, M, Qd, Qx, ok, en, q, k, x => k [] [] S M H q (Ex.refl S) ok rfl
  | (a, b) :: r, H, Q, S, env, M, Qd, Qx, ok, en, q, k, x => by
    refine ⟨S, env, M, _, Qx, ok, en, q, fun d v S1 M1 H1 q1 e1 ok1 r1 => ?_, x⟩
    refine ⟨S1, env, M1, _, Qx, ok1, en.mono e1, q1, fun d2 u S2 M2 H2 q2 e2 ok2 r2 => ?_, x.mono e1⟩
    exact pairs_read ok2 (en.mono (e1.trans e2)) q2 (fun ds vs S3 M3 H3 q3 e3 ok3 r3 => k _ _ S3 M3 H3 q3 ((e1.trans e2).trans e3) ok3 ⟨v, u, vs, rfl, r1.mono (e2.trans e3), r2.mono e3, r3⟩) (x.mono (e1.trans e2))
theorem ew_disp {X : Cx} {E : WK} {pos : Pos} {keys : List (Option Expr)} {values : List Expr} {ps : List (SE × SE)} (h : PPs X pos keys values (ps.map fun p => (tE X.K E p.1, tE X.K E p.2))) (hall : keys.all (·.isSome) = true) (hl : keys.length = values.length) (h0 : keys ≠ []) (h15 : keys.length ≤ 15) :
    EW X E (.Dict keys values pos) (wDisp ps) :=
  PE.imp (pe_disp h hall hl h0 h15) fun σ H Q ⟨S, env, M, Qd, Qx, ok, en, q, k, x⟩ => fun p hp => by
    refine pairs_read (ok.newD (ds := []) hp rfl (fun _ z => nomatch z)) en (q p (ok.fresh hp)) (fun ds vs S2 M2 H2 ⟨hm, kvs, hk, h15, q2⟩ e2 ok2 r2 => ?_) x
    obtain ⟨ks, e1, rk, hok⟩ := keysOf_rep r2 hk
    obtain ⟨hS, vs0, hv, rv0, _⟩ := ok2.own p _ hm
    obtain rfl : vs0 = [] := rv0
    refine ⟨hv, ks, e1, by rw [rk.length]; exact h15, ?_⟩
    exact k _ _ _ _ _ q2 e2 (ok2.change hS ⟨hS, _, upd_same, RepKV.merge rk rfl, mergeD_ok (fun _ z => nomatch z) hok⟩) rfl
/-! ### xs[a:b] = ys -/
@[simp ↓] def sSetCut (wo : SE) (lo hi : Option SE) (wv : SE) : SS := fun env M P => wv env M (fun v M1 => wo env M1 (fun d M2 => optI lo env M2 (fun l M3 => optI hi env M3 (fun u M4 =>
  ∃ (a : Addr) (xs ys : List D) (n m : Nat), d = .ptr a ∧ M4 a = some (.ml xs) ∧ viewL M4 v = some ys ∧ v ≠ .ptr a ∧ l = some (n : Int) ∧ u = some (m : Int) ∧ n ≤ m ∧ n ≤ xs.length ∧ xs.length + ys.length ≤ 100000 ∧ P (.nx env (put M4 a (.ml (xs.take n ++ ys ++ xs.drop m)))))
  (qX env P)) (qX env P)) (qX env P)) (qX env P)
theorem sw_setCut {X : Cx} {E : WK} {o value : Expr} {lo hi : Option Expr} {wo wv : SE} {wl wh : Option SE} {pos pos' p2 : Pos} (ho : EW X E o wo) (hl : OW X E lo (optI wl)) (hu : OW X E hi (optI wh)) (hv : EW X E value wv) (hs : swapsWith value (some (.Subscript o (.Slice lo hi none p2) pos')) pos.line X.env = Pure.pure false) :
    SW X E (.Assign [.Subscript o (.Slice lo hi none p2) pos'] value pos) (sSetCut wo wl wh wv) :=
  PS.imp (ps_setSl ho hl hu hv hs) fun Dn σ H ⟨S, env, M, P, ok, en, q, k⟩ =>
    have kx := kX_of k en
    ⟨S, env, M, _, _, ok, en, q, fun v vv S1 M1 H1 q1 e1 ok1 r1 => ⟨S1, env, M1, _, _, ok1, en.mono e1, q1, fun d dv S2 M2 H2 q2 e2 ok2 r2 =>
      ⟨S2, env, M2, _, _, ok2, en.mono (e1.trans e2), q2, fun l S3 M3 H3 q3 e3 ok3 => ⟨S3, env, M3, _, _, ok3, en.mono ((e1.trans e2).trans e3), q3, fun u S4 M4 H4 q4 e4 ok4 => by
        obtain ⟨a, xs, ys, n, m, rfl, hm, hy, hne, rfl, rfl, h1, h2, h3, q⟩ := q4
        obtain rfl : dv = .ref a := r2
        obtain ⟨hS, vs, hvv, rx⟩ := ok4.own a _ hm
        obtain ⟨b, us, rfl, hb, ry⟩ := view_rep ok4 (r1.mono ((e2.trans e3).trans e4)) hy
        have hab : a ≠ b := by
          rintro rfl
          cases v with
          | ptr c =>
            have : (V.ref a) = .ref c := r1
            cases this
            exact hne rfl
          | lst es =>
            obtain ⟨c, zs, e, hc, _⟩ := (r1.mono ((e2.trans e3).trans e4) : Rep X.K S4 (.lst es) _)
            cases e
            rw [hS] at hc
            cases hc
          | _ => cases hy
        refine ⟨a, b, vs, us, n, m, rfl, rfl, hab, hvv, hb, rfl, rfl, h1, by rw [rx.length]; exact h2, sz_of (by rw [rx.length, ry.length]; exact h3), ?_⟩
        exact k _ q σ S4 _ (((e1.trans e2).trans e3).trans e4) (ok4.change hS ⟨hS, _, upd_same, ((rx.take n).append ry).append (rx.drop m)⟩) (en.mono (((e1.trans e2).trans e3).trans e4)),
        kx.mono ((e1.trans e2).trans e3)⟩, kx.mono (e1.trans e2)⟩, kx.mono e1⟩, kx⟩
end FL
set_option Elab.async false
set_option linter.all false
set_option maxRecDepth 100000
set_option maxHeartbeats 4000000
namespace FL
open PySem PySem.Spec PyProof.Rows L2 Evl
/-! ### raise -/
@[simp ↓] def sRaise (x : Str) : SS := fun env M P => P (.xx x env M)
theorem sw_raise {X : Cx} {E : WK} {x m : Str} {j : Nat} {p p2 q pos : Pos} (hc : X.calm = true) (tk : L2N.Takes X fun c d σ H => E σ c d H) (hg : Gl X x) (hdb : (x == ("__debug__" : Str)) = false) (hm : X.mg x = some (exv X.K x)) (h : OkX X.K x) :
    SW X E (.Raise (some (.Call (.Name x p) [.Constant (.str m) j p2] [] q)) none pos) (sRaise x) :=
  PS.imp (L2N.ps_raise hc tk (L2N.pmk_own PySem.F.excBase_ValueError h.exc hm h.keep (raises_own h.sub h.ty) hg hdb)) fun Dn σ H ⟨S, env, M, P, ok, en, q, k⟩ => k _ q σ S H (Ex.refl _) h ok en
/-! ### a method whose object never comes to be -/
@[simp ↓] def wOnly (we : SE) : SE := fun env M _ X => we env M (fun _ _ => False) X
theorem ew_only {X : Cx} {E : WK} {o : Expr} {m : Str} {apos cpos : Pos} {args : List Expr} {we : SE} (hb : notCall0 o = true) (ho : EW X E o we) : EW X E (.Call (.Attribute o m apos) args [] cpos) (wOnly we) := by
  refine ⟨fun pins s σ H Q I ⟨S, env, M, Qd, Qx, ok, en, q, k, x⟩ => ?_⟩
  rw [arm_eval_Call, base_of hb]
  refine wpAny_bind (wpAny_mono (ho.run pins s σ H (fun _ _ => False) I ⟨S, env, M, _, Qx, ok, en, q, fun _ _ _ _ _ z => z.elim, x⟩) (fun v s1 ⟨_, _, _, _, z⟩ => z.elim) fun _ _ e => e)
/-! ### where an exception is handled -/
/-- the exception at a, of class c, is handled here -/
structure HotOk (X : Cx) (a : Addr) (c : Str) : Prop where
  ok : OkX X.K c
  pin : ∃ oe : Obj, (a, oe) ∈ X.pn ∧ L2H.Hot1 X.A (a, oe) ∧ L2N.Zn (exv X.K c) none oe ∧ ∃ vs, oe.data = .fields vs
def rIsX (K : PySem.W.Frag) (a : Addr) (c : Str) : List V → Hp → VK → Prop := fun xs H Q => ∃ (t : V) (u : Value) (b : Bool), xs = [.ref a, t] ∧ (∀ z, RelV t z → z = u) ∧ PySem.W.kitOne K (exv K c) u = some b ∧ Q (.bl b) H
theorem call_isX {X : Cx} {a : Addr} {c : Str} (h : HotOk X a c) : CallR X (.builtin "isinstance") (rIsX X.K a c) := by
  intro pins s σ H xs us Q I r ⟨t, u, b, ex, ht, hk, q⟩
  subst ex
  obtain ⟨oe, hp, _, hz, vs, hv⟩ := h.pin
  obtain ⟨v1, v2, rfl, r1, r2⟩ := vals2 r
  obtain rfl : v1 = Value.ref a := r1
  obtain rfl := ht _ r2
  have hget := (I.pin (a, oe) (List.mem_append_left _ hp)).1
  have inst : PySem.W.InstAt s.heap a oe (He.ga X.K c) none := by
    obtain ⟨oc, od, odat, os⟩ := oe
    obtain ⟨z1, z2, _⟩ := hz
    dsimp only at z1 z2 hv
    subst z1 z2 hv
    exact ⟨hget, rfl, rfl, trivial⟩
  have kx := PySem.W.handS_kitx_exc (x := a) (ox := oe) h.ok.ec.hg h.ok.ec.hk h.ok.ec.hs h.ok.ec.hd h.ok.ec.ha h.ok.ec.hn h.ok.ec.ht h.ok.ec.hm
  exact PySem.W.kia_one kx I.kIn inst hk (fun z => nomatch z) fun tk => ⟨.bl b, H, I.kept (t' := tk) fun _ _ z => z, rfl, q⟩
/-- isinstance(e, class), e the handled exception -/
@[simp ↓] def wIsX (a : Addr) (b : Bool) (we : SE) : SE := fun env M Q X => we env M (fun d M1 => d = .ptr a ∧ Q (.bl b) M1) X
section
variable {X : Cx} {E : WK} {e : Expr} {x : Str} {we : SE} {p p2 pos : Pos} {a : Addr} {c : Str} {b : Bool}
theorem ew_isX (h : HotOk X a c) (hg : Gl X "isinstance") (hm : X.mg "isinstance" = none) (hg2 : Gl X x) (hd2 : (x == ("__debug__" : Str)) = false) (hm2 : X.mg x = some (exv X.K x)) (hk : PySem.W.kitOne X.K (exv X.K c) (exv X.K x) = some b) (hs : starred e = false) (ha : EW X E e we) :
    EW X E (.Call (.Name "isinstance" p) [e, .Name x p2] [] pos) (wIsX a b we) := by
  refine PE.imp (pe_callB (call_isX h) hg hm boot_isinstance (pa_cons ha (pa_cons (pe_glob hg2 hm2 (v := .ref (He.ga X.K x)) rfl hd2) pa_nil (star_cons rfl _)) (star_cons hs _)) (by decide) (by decide) (star_cons hs _) (star_none (es := [.Name x p2]) _ rfl)) fun σ H Q ⟨S, env, M, Qd, Qx, ok, en, q, k, y⟩ => ⟨S, env, M, _, Qx, ok, en, q, fun d v S1 M1 H1 q1 e1 ok1 r1 => ?_, y⟩
  obtain ⟨rfl, q1⟩ := q1
  obtain rfl : v = .ref a := r1
  exact ⟨.ref (He.ga X.K x), exv X.K x, b, rfl, fun z r => r, hk, k _ _ S1 M1 H1 q1 e1 ok1 rfl⟩
theorem ew_isV (h : HotOk X a c) (hg : Gl X "isinstance") (hm : X.mg "isinstance" = none) (hg2 : Gl X "ValueError") (hm2 : X.mg "ValueError" = none) (hs : starred e = false) (ha : EW X E e we) :
    EW X E (.Call (.Name "isinstance" p) [e, .Name "ValueError" p2] [] pos) (wIsX a true we) := by
  refine PE.imp (pe_callB (call_isX h) hg hm boot_isinstance (pa_cons ha (pa_cons (pe_bltn hg2 hm2 (u := .type "ValueError") (by decide +kernel) (v := .ty "ValueError") rfl (by decide) (by decide)) pa_nil (star_cons rfl _)) (star_cons hs _)) (by decide) (by decide) (star_cons hs _) (star_none (es := [.Name "ValueError" p2]) _ rfl)) fun σ H Q ⟨S, env, M, Qd, Qx, ok, en, q, k, y⟩ => ⟨S, env, M, _, Qx, ok, en, q, fun d v S1 M1 H1 q1 e1 ok1 r1 => ?_, y⟩
  obtain ⟨rfl, q1⟩ := q1
  obtain rfl : v = .ref a := r1
  exact ⟨.ty "ValueError", .type "ValueError", true, rfl, fun z r => r, h.ok.ve, k _ _ S1 M1 H1 q1 e1 ok1 rfl⟩
end
/-! ### a def that is called with the handled exception -/
structure FnE (P : Program) (w : World) (K : PySem.W.Frag) (mg : Str → Option Value) (base : Heap) (k : Nat) (f : Addr) (fd : FuncData) (ps : List Str) (φ : Str → D) : Prop where
  run : ∀ (A : Around) (outer : List Env) (s : Shared) (H : Hp) (args : Args) (us : List Value) (vs : List V) (Q : VK) (E : XK) (p : Addr × Obj) (c : Str), L2H.RoomH k A → L2H.Hot1 A p → L2H.PinOk outer H s p → OkX K c → L2N.Zn (exv K c) none p.2 → (∃ xs, p.2.data = .fields xs) →
    Env0 P w K mg base A outer s H → BindsTo s fd args (ps.zip us) → Vals vs us → vs = [.ref p.1] → (∃ S M, Ok K S M H ∧ kE K S (fun d M' => d = φ c ∧ M' = M) Q) → codeAny (model P w) A (.call (.ref f) args) (CR (L2N.CX P w) outer P w H s Q E) s
structure HasE (P : Program) (w : World) (K : PySem.W.Frag) (mg : Str → Option Value) (base : Heap) (name : Str) (k : Nat) (φ : Str → D) : Prop where
  ex : ∃ f fd ps, mg name = some (.ref f) ∧ PySem.W.keepIn K (.ref f) = true ∧ Binds K fd ps [] ∧ ps.length = 1 ∧ FnE P w K mg base k f fd ps φ
theorem HasE.up {P : Program} {w : World} {K : PySem.W.Frag} {mg : Str → Option Value} {base : Heap} {name : Str} {k k' : Nat} {φ : Str → D} (h : HasE P w K mg base name k φ) (hk : k ≤ k') : HasE P w K mg base name k' φ := by
  obtain ⟨f, fd, ps, h1, h2, h3, h4, F⟩ := h.ex
  exact ⟨f, fd, ps, h1, h2, h3, h4, ⟨fun A outer s H args us vs Q E p c hr => F.run A outer s H args us vs Q E p c (hr.mono hk)⟩⟩
/-- f(e) where e is handled -/
@[simp ↓] def wHot (a : Addr) (d0 : D) (we : SE) : SE := fun env M Q X => we env M (fun d M1 => d = .ptr a ∧ Q d0 M1) X
theorem ew_hot {X : Cx} {E : WK} {e : Expr} {x : Str} {we : SE} {p pos : Pos} {a : Addr} {c : Str} {k : Nat} {φ : Str → D} (h : HotOk X a c) (hr : L2H.RoomH k X.A) (hE : HasE X.prog X.w X.K X.mg X.base x k φ) (tk : L2N.Takes X fun c d σ H => E σ c d H) (hg : Gl X x) (hdb : (x == ("__debug__" : Str)) = false) (hs : starred e = false) (ha : EW X E e we) :
    EW X E (.Call (.Name x p) [e] [] pos) (wHot a (φ c) we) := by
  obtain ⟨f, fd, ps, hm, hk, hb, hn, F⟩ := hE.ex
  refine ⟨fun pins s σ H Q I ⟨S, env, M, Qd, Qx, ok, en, q, kk, y⟩ => ?_⟩
  refine wpAny_Call_Name_kw (ld_glob I hg hm ?_ hdb)
  have harg : PA X [e] (tCons (tE X.K E we) tNil) := pa_cons ha pa_nil (star_cons hs _)
  refine PySem.W.callWith_K (h₀ := X.base) I.ok.mod.kin hk (thn (harg.run pos pins s σ H (fun vs H1 => vs = [.ref a] ∧ ∃ S1 M1, Ex S S1 ∧ Ok X.K S1 M1 H1 ∧ Qd (φ c) M1) I ⟨S, env, M, _, Qx, ok, en, q, fun d v S1 M1 H1 q1 e1 ok1 r1 => ?_, y⟩) fun us s1 ⟨vs, H1, I1, r, ev, S1, M1, e1, ok1, q1⟩ => ⟨I1.kIn, ?_⟩) (star_cons hs _) (star_none (es := []) _ rfl)
  · obtain ⟨rfl, q1⟩ := q1
    obtain rfl : v = .ref a := r1
    exact ⟨rfl, S1, M1, e1, ok1, q1⟩
  · obtain ⟨oe, hp, hot, hz, hv⟩ := h.pin
    have P1 := I1.pin (a, oe) (List.mem_append_left _ hp)
    have hpin : L2H.PinOk X.stack H1 s1 (a, oe) := ⟨P1.1, P1.2.1, fun hm2 => (List.mem_cons.mp (I1.stkSub a hm2)).elim P1.2.2.1 P1.2.2.2.1, P1.2.2.2.2⟩
    have bt := hb s1 us I1.kIn (by rw [List.append_nil, ← r.length, ev, hn]; rfl)
    rw [List.append_nil] at bt
    refine wpAny_call (codeAny_mono (F.run X.A X.stack s1 H1 ⟨us, []⟩ us vs (fun v H2 => Q v H2) (fun c d H2 => E σ c d H2) (a, oe) c hr hot hpin h.ok hz hv I1.env0 bt r ev ⟨S1, M1, ok1, fun d v S2 M2 H2 ⟨ed, em⟩ e2 ok2 r2 => ?_⟩) fun res s2 hq => ?_)
    · subst ed em
      exact kk _ _ S2 _ H2 q1 (e1.trans e2) ok2 r2
    · cases res with
      | error e0 => exact tk _ _ (L2N.XE.of_call I1 (fun _ _ _ z => z) hq)
      | ok fl =>
        cases fl with
        | ret u => exact I1.after hq
        | _ => exact hq.elim
section
variable {P : Program} {w : World} {K : PySem.W.Frag} {mg : Str → Option Value} {base : Heap} {x : Str} {st : Stmt} {N ps : List Str} {k : Nat} {φ : Str → D}
/-- .. by what its body does there -/
theorem fnE {f : Addr} {fd : FuncData} (F : FunD K x x (defArgs st) (defBody st) (defScope st) [] [] f fd) (S : FnScope N ps (defScope st)) (hps : ps.length = 1) (ws : Addr → Str → SS)
    (hb : ∀ (f : Addr) (cdv : Value) (A : Around) (outer : List Env) (s : Shared) (H : Hp) (E : XK) (p : Addr × Obj) (c : Str), L2H.RoomH k (A.deeper (envOfC x (defScope st) s.heap.objs.size f cdv)) → L2H.Hot1 A p → OkX K c → L2N.Zn (exv K c) none p.2 → (∃ xs, p.2.data = .fields xs) →
      BW (L2H.cxH (L2N.CX P w) P w K mg base N x (defScope st) f cdv A outer s H E p) (fun _ => E) (defBody st) (ws p.1 c))
    (hw : ∀ a c M, defW N (ws a c) [.ptr a] M (fun d M' => d = φ c ∧ M' = M) fun _ _ => False) : FnE P w K mg base (k + 1) f fd ps φ := by
  obtain ⟨oc, od, dV, kV, doc, pm, an, cdv, ct, osl, efd, lk, hcd, _, _⟩ := F.ex
  subst efd
  refine ⟨fun A outer s H args us vs Q E p c room hot hpin okx hz hf env0 binds rel evs ⟨S0, M, ok, kq⟩ => ?_⟩
  subst evs
  have inK : K.In s.heap := env0.mod.kin.keeps fun b o e => (env0.bs b o e).1
  have noLim : s.heap.NoLimit := env0.mod.nolimit.keeps fun b o e => (env0.bs b o e).1
  have parK : ∀ z ∈ ps.zip us, (defScope st).names.lookup z.1 = some .local ∨ ((defScope st).names.lookup z.1 = some .cell ∧ ((cellsFrom (s.heap.objs.size + 1) (defScope st).names []).lookup z.1).isSome = true) := by
    rintro ⟨y, v⟩ hz
    cases S.par y (List.of_mem_zip hz).1 with
    | inl q => exact .inl q
    | inr q => exact .inr ⟨q, PySem.W.cellsFrom_some _ _ _ (.inl q)⟩
  refine codeAny_call_function room.depth (inK _ _ lk) rfl S.co S.gen rfl (PySem.W.codeRec_of inK hcd) (binds _ _ _ _ ?_)
  refine wpAny_newFunctionEnv_cells S.kind parK fun env he s1 inCall => ?_
  subst he
  refine ⟨noLim.keeps inCall.toInCall.keep, codeAny_func ?_⟩
  have body := hb f cdv A outer s H E p c (room.deeper _) hot okx hz hf
  have start := L2H.inv_startH (CX := L2N.CX P w) (E := E) S hpin env0 (vs := [V.ref p.1]) (by rw [hps]; rfl) rel inCall
  have run := body.run [] s1 (L2.start N [V.ref p.1]) H { nx := fun _ H' => Q .non H', rt := Q } start ⟨S0, _, M, _, ok, env0_ok (ds := [.ptr p.1]) (RepL.one rfl), hw p.1 c M, fun o po => ?_⟩
  · refine wpAny_mono run (fun fl s2 hs => ?_) fun e s2 hs => hs
    cases fl with
    | ret u => obtain ⟨v, σ2, H2, J, rv, q⟩ := hs; exact ⟨v, H2, J.os, J.bare, J.base, J.hok, rv, q⟩
    | next => obtain ⟨σ2, H2, J, q⟩ := hs; exact ⟨V.non, H2, J.os, J.bare, J.base, J.hok, rfl, q⟩
    | brk => obtain ⟨_, _, _, q⟩ := hs; exact q.elim
    | cont => obtain ⟨_, _, _, q⟩ := hs; exact q.elim
  · cases o with
    | rt d M2 => exact fun v S2 H2 e2 ok2 r2 => kq d v S2 M2 H2 po e2 ok2 r2
    | nx env M2 => exact fun σ2 S2 H2 e2 ok2 _ => kq .non .non S2 M2 H2 po e2 ok2 rfl
    | xx c env M2 => exact po.elim
    | bk _ _ => exact po.elim
    | ct _ _ => exact po.elim
end
end FL
set_option Elab.async false
set_option linter.all false
set_option maxRecDepth 100000
set_option maxHeartbeats 4000000
namespace FL
open PySem PySem.Spec PyProof.Rows L2 Evl
/-! ### try .. except -/
def clrO (i : Option Nat) (e : Sl) : Sl := match i with
  | some i => e.set i none
  | none => e
def putO (i : Option Nat) (d : D) (e : Sl) : Sl := match i with
  | some i => e.set i (some d)
  | none => e
@[simp] theorem clrO_none {e : Sl} : clrO none e = e := rfl
@[simp] theorem clrO_some {e : Sl} {i : Nat} : clrO (some i) e = e.set i none := rfl
@[simp] theorem putO_none {e : Sl} {d : D} : putO none d e = e := rfl
@[simp] theorem putO_some {e : Sl} {i : Nat} {d : D} : putO (some i) d e = e.set i (some d) := rfl
/-- behind a suite: its name is gone -/
def unK (i : Option Nat) (P : Out → Prop) (o : Out) : Prop := match o with
  | .nx e m => P (.nx (clrO i e) m)
  | .bk e m => P (.bk (clrO i e) m)
  | .ct e m => P (.ct (clrO i e) m)
  | .rt d m => P (.rt d m)
  | .xx _ _ _ => False
@[simp ↓] theorem unK_nx {i : Option Nat} {P : Out → Prop} {e : Sl} {m : Mem} : unK i P (.nx e m) = P (.nx (clrO i e) m) := rfl
@[simp ↓] theorem unK_bk {i : Option Nat} {P : Out → Prop} {e : Sl} {m : Mem} : unK i P (.bk e m) = P (.bk (clrO i e) m) := rfl
@[simp ↓] theorem unK_ct {i : Option Nat} {P : Out → Prop} {e : Sl} {m : Mem} : unK i P (.ct e m) = P (.ct (clrO i e) m) := rfl
@[simp ↓] theorem unK_rt {i : Option Nat} {P : Out → Prop} {d : D} {m : Mem} : unK i P (.rt d m) = P (.rt d m) := rfl
@[simp ↓] theorem unK_xx {i : Option Nat} {P : Out → Prop} {c : Str} {e : Sl} {m : Mem} : unK i P (.xx c e m) = False := rfl
/-- behind a try's body -/
def tryK (x : Str) (i : Option Nat) (ws : Addr → Str → SS) (P : Out → Prop) (o : Out) : Prop := match o with
  | .xx c e m => if subX c x = true then ∀ a, m a = none → ws a c (putO i (.ptr a) e) m (unK i P) else P (.xx c e m)
  | o => P o
section
variable {x : Str} {i : Option Nat} {ws : Addr → Str → SS} {P : Out → Prop} {e : Sl} {m : Mem} {d : D} {c : Str}
@[simp ↓] theorem tryK_nx : tryK x i ws P (.nx e m) = P (.nx e m) := rfl
@[simp ↓] theorem tryK_bk : tryK x i ws P (.bk e m) = P (.bk e m) := rfl
@[simp ↓] theorem tryK_ct : tryK x i ws P (.ct e m) = P (.ct e m) := rfl
@[simp ↓] theorem tryK_rt : tryK x i ws P (.rt d m) = P (.rt d m) := rfl
@[simp ↓] theorem tryK_xx : tryK x i ws P (.xx c e m) = if subX c x = true then ∀ a, m a = none → ws a c (putO i (.ptr a) e) m (unK i P) else P (.xx c e m) := rfl
end
@[simp ↓] def sTry (wb : SS) (x : Str) (i : Option Nat) (ws : Addr → Str → SS) : SS := fun env M P => wb env M (tryK x i ws P)
def EF : WK := fun _ _ _ _ => False
section
variable {X : Cx} {E : WK} {x n : Str} {i : Nat} {body suite : List Stmt} {b₀ : Stmt} {np pos pos' : Pos} {wb : SS} {ws : Addr → Str → SS}
theorem sw_tryAs (hs : X.stack = X.env :: X.outer) (hf : X.env.frame = some X.env.locals) (hN : X.N.Nodup) (hi : X.N[i]? = some n) (hln : X.env.kindOf n = some .local) (hg : Gl X x) (hdb : (x == ("__debug__" : Str)) = false) (hm : X.mg x = some (exv X.K x)) (hx : x ∈ exNames) (hok : OkX X.K x)
    (tk : L2N.Takes X fun c d σ H => E σ c d H)
    (hb : ∀ (E2 : WK) (pn : List (Addr × Obj)) (xe : Value → Shared → Prop), L2N.Takes (X.tr pn xe) (fun c d σ H => E2 σ c d H) → PassesOwn (model X.prog X.w) X.A X.env xe → BW (X.tr pn xe) E2 body wb)
    (hsu : ∀ (a : Addr) (oe : Obj) (c : Str) (pn : List (Addr × Obj)), OkX X.K c → L2N.Zn (exv X.K c) none oe → (∃ vs, oe.data = .fields vs) → BW (X.suite a ((a, oe) :: pn)) EF (b₀ :: suite) (ws a c)) :
    SW X E (.Try body [.ExceptHandler (some (.Name x np)) (some n) (b₀ :: suite) pos'] [] [] pos) (sTry wb x (some i) ws) := by
  refine PS.imp (L2N.ps_try_as (i := i) (tb := fun W => tS X.K (fun σ c d H => W c d σ H) wb) (ts := fun a cls d => fun Dn σ H => ∃ c, cls = exv X.K c ∧ OkX X.K c ∧ d = none ∧ tS X.K EF (ws a c) Dn σ H) (Wout := fun c d σ H => E σ c d H) hs hf hN hi hln ⟨hg, hdb, .inl hm⟩ tk
    (fun W pn xe t1 t2 => hb _ pn xe t1 t2) (fun a oe cls d pn hz hv => ⟨fun pins s σ H Dn I ⟨c, e1, o1, e2, q⟩ => by subst e1 e2; exact (hsu a oe c pn o1 hz hv).run pins s σ H Dn I q⟩)) fun Dn σ H ⟨S, env, M, P, ok, en, q, k⟩ => ⟨S, env, M, _, ok, en, q, fun o po => ?_⟩
  cases o with
  | nx e m => exact k _ po
  | bk e m => exact k _ po
  | ct e m => exact k _ po
  | rt d m => exact k _ po
  | xx c e m =>
    intro σ2 S2 H2 e2 okc ok2 en2
    refine ⟨subX c x, okc.exm x hx hok.glo, fun hb2 a ha => ?_, fun hb2 => ?_⟩
    · rw [tryK_xx, if_pos hb2] at po
      have hma : m a = none := by
        cases hma : m a with
        | none => rfl
        | some mo => exact absurd ha (ok2.own a mo hma).there
      refine ⟨c, rfl, okc, rfl, S2, _, m, _, ok2, en2.setD (d := .ptr a) (v := .ref a) rfl i, po a hma, fun o po => ?_⟩
      cases o with
      | nx e m => exact fun σ3 S3 H3 e3 ok3 en3 => k _ po (σ3.set i none) S3 H3 (e2.trans e3) ok3 (en3.un i)
      | bk e m => exact fun σ3 S3 H3 e3 ok3 en3 => k _ po (σ3.set i none) S3 H3 (e2.trans e3) ok3 (en3.un i)
      | ct e m => exact fun σ3 S3 H3 e3 ok3 en3 => k _ po (σ3.set i none) S3 H3 (e2.trans e3) ok3 (en3.un i)
      | rt d m => exact fun v S3 H3 e3 ok3 r3 => k _ po v S3 H3 (e2.trans e3) ok3 r3
      | xx c e m => exact po.elim
    · rw [tryK_xx, if_neg (by rw [hb2]; exact Bool.false_ne_true)] at po
      exact k _ po σ2 S2 H2 e2 okc ok2 en2
theorem sw_tryOnly (hs : X.stack = X.env :: X.outer) (hf : X.env.frame = some X.env.locals) (hg : Gl X x) (hdb : (x == ("__debug__" : Str)) = false) (hm : X.mg x = some (exv X.K x)) (hx : x ∈ exNames) (hok : OkX X.K x)
    (tk : L2N.Takes X fun c d σ H => E σ c d H)
    (hb : ∀ (E2 : WK) (pn : List (Addr × Obj)) (xe : Value → Shared → Prop), L2N.Takes (X.tr pn xe) (fun c d σ H => E2 σ c d H) → PassesOwn (model X.prog X.w) X.A X.env xe → BW (X.tr pn xe) E2 body wb)
    (hsu : ∀ (a : Addr) (oe : Obj) (c : Str) (pn : List (Addr × Obj)), OkX X.K c → L2N.Zn (exv X.K c) none oe → (∃ vs, oe.data = .fields vs) → BW (X.suite a ((a, oe) :: pn)) EF (b₀ :: suite) (ws a c)) :
    SW X E (.Try body [.ExceptHandler (some (.Name x np)) none (b₀ :: suite) pos'] [] [] pos) (sTry wb x none ws) := by
  refine PS.imp (L2N.ps_try_many (tb := fun W => tS X.K (fun σ c d H => W c d σ H) wb) (Wout := fun c d σ H => E σ c d H) hs hf tk (fun W pn xe t1 t2 => hb _ pn xe t1 t2)
    (L2N.HdsOk.cons (ts := fun a cls d => fun Dn σ H => ∃ c, cls = exv X.K c ∧ OkX X.K c ∧ d = none ∧ tS X.K EF (ws a c) Dn σ H) ⟨hg, hdb, .inl hm⟩ (fun a oe cls d pn hz hv => ⟨fun pins s σ H Dn I ⟨c, e1, o1, e2, q⟩ => by subst e1 e2; exact (hsu a oe c pn o1 hz hv).run pins s σ H Dn I q⟩) L2N.HdsOk.nil)) fun Dn σ H ⟨S, env, M, P, ok, en, q, k⟩ => ⟨S, env, M, _, ok, en, q, fun o po => ?_⟩
  cases o with
  | nx e m => exact k _ po
  | bk e m => exact k _ po
  | ct e m => exact k _ po
  | rt d m => exact k _ po
  | xx c e m =>
    intro σ2 S2 H2 e2 okc ok2 en2
    refine ⟨subX c x, okc.exm x hx hok.glo, fun hb2 a ha => ?_, fun hb2 => ?_⟩
    · rw [tryK_xx, if_pos hb2] at po
      have hma : m a = none := by
        cases hma : m a with
        | none => rfl
        | some mo => exact absurd ha (ok2.own a mo hma).there
      refine ⟨c, rfl, okc, rfl, S2, _, m, _, ok2, en2, po a hma, fun o po => ?_⟩
      cases o with
      | nx e m => exact fun σ3 S3 H3 e3 ok3 en3 => k _ po σ3 S3 H3 (e2.trans e3) ok3 en3
      | bk e m => exact fun σ3 S3 H3 e3 ok3 en3 => k _ po σ3 S3 H3 (e2.trans e3) ok3 en3
      | ct e m => exact fun σ3 S3 H3 e3 ok3 en3 => k _ po σ3 S3 H3 (e2.trans e3) ok3 en3
      | rt d m => exact fun v S3 H3 e3 ok3 r3 => k _ po v S3 H3 (e2.trans e3) ok3 r3
      | xx c e m => exact po.elim
    · rw [tryK_xx, if_neg (by rw [hb2]; exact Bool.false_ne_true)] at po
      exact k _ po σ2 S2 H2 e2 okc ok2 en2
end
end FL
set_option Elab.async false
set_option linter.all false
set_option maxRecDepth 100000
set_option maxHeartbeats 4000000
namespace FL
open PySem PySem.Spec PyProof.Rows L2 Evl
/-! a set made of a list of numbers and texts -/
def stepK (l : List Key) (k : Key) : List Key := if l.any (fun x => decide (x = k)) then l else l ++ [k]
def dedK (ks : List Key) : List Key := ks.foldl stepK []
def firstK (val : Nat → Key) (i : Nat) : List Key := dedK ((List.range i).map val)
theorem firstK_succ (val : Nat → Key) (i : Nat) : firstK val (i + 1) = stepK (firstK val i) (val i) := by
  unfold firstK dedK; rw [List.range_succ, List.map_append, List.foldl_append]; rfl
theorem stepK_len (l : List Key) (k : Key) : (stepK l k).length = if l.any (fun x => decide (x = k)) then l.length else l.length + 1 := by
  unfold stepK; split <;> simp
theorem firstK_le (val : Nat → Key) : ∀ i, (firstK val i).length ≤ i
  | 0 => Nat.le_refl _
  | i + 1 => by
    have := firstK_le val i
    rw [firstK_succ, stepK_len]; split <;> omega
theorem stepK_any (l : List Key) (v k : Key) : (stepK l v).any (fun x => decide (x = k)) = (l.any (fun x => decide (x = k)) || decide (k = v)) := by
  unfold stepK
  by_cases h : l.any (fun x => decide (x = v)) = true
  · rw [if_pos h]
    by_cases e : k = v
    · subst e; rw [h]; simp
    · simp [e]
  · rw [if_neg h, List.any_append]
    by_cases e : k = v
    · subst e; simp
    · have e' : ¬ v = k := fun q => e q.symm
      simp [e, e']
theorem setOf_eq {prog : Program} {w : World} {h : Heap} {a : Addr} {S S' : Key → Bool} {n n' : Nat} (hS : h.SetOf (mixKind prog w) a S n) (e : ∀ k, S k = S' k) (en : n = n') : h.SetOf (mixKind prog w) a S' n' := by
  obtain rfl : S = S' := funext e
  obtain rfl := en
  exact hS
theorem keyIs_scan {k : Key} {v : Value} (h : keyIs k v = true) : v.scannable = true := by
  rcases keyIs_shape h with ⟨i, t, _, rfl⟩ | ⟨x, t, _, rfl⟩ <;> rfl
section
variable {prog : Program} {w : World} {A : Around} {R : Result → Shared → Prop} {I : Addr} {fp wr : List Addr} {G : Array GenState → Array GenState → Prop} {n : Nat} {Pv : Nat → Value → Prop} {St : Nat → Shared → Prop}
theorem set_loopK (W : WalksS prog w A.in1 I fp wr G n Pv St) (S : Addr) (hSf : S ∉ fp) (val : Nat → Key) (hval : ∀ i v, Pv i v → keyIs (val i) v = true) (hb : n + 1 < scanBound) :
    ∀ (k i : Nat) (s : Shared), n - i = k → i ≤ n → St i s → s.heap.SetOf (mixKind prog w) S (fun k' => (firstK val i).any (fun x => decide (x = k'))) (firstK val i).length →
      (∀ s', Moved (S :: wr) G s s' → s'.heap.SetOf (mixKind prog w) S (fun k' => (firstK val n).any (fun x => decide (x = k'))) (firstK val n).length → R (.ok (.ret .none)) s') →
      codeAny (model prog w) A (.builtin "set.update.loop" ⟨[.ref S, .ref I], []⟩) R s := by
  have hSw : S ∉ wr := fun h => hSf (W.sub _ h)
  have hsub : ∀ b ∈ wr, b ∈ S :: wr := fun b hb => List.mem_cons_of_mem _ hb
  have kept : ∀ {s s' : Shared} {T : Key → Bool} {m : Nat}, Moved wr G s s' → s.heap.SetOf (mixKind prog w) S T m → s'.heap.SetOf (mixKind prog w) S T m := fun hm h => by
    obtain ⟨o, es, ep, t, ho, rest⟩ := h
    exact ⟨o, es, ep, t, hm.heap S _ hSw ho, rest⟩
  intro k
  induction k with
  | zero =>
    intro i s hk hi hst hS hR
    obtain rfl : i = n := by omega
    refine codeAny_builtin F.entry_set_update_loop ?_
    rw [Around.under_plainId F.plain_set_update_loop _]
    show wpAny _ A.in1 (pyNext (.ref I) >>= _) _ _ s
    refine wpAny_bind (W.done s _ _ hst fun s' hm => ?_)
    show wpAny _ A.in1 (ret Value.none) _ _ s'
    exact wpAny_pure (hR s' (hm.mono hsub) (kept hm hS))
  | succ k ih =>
    intro i s hk hi hst hS hR
    have hlt : i < n := by omega
    refine codeAny_builtin F.entry_set_update_loop ?_
    rw [Around.under_plainId F.plain_set_update_loop _]
    show wpAny _ A.in1 (pyNext (.ref I) >>= _) _ _ s
    refine wpAny_bind (W.item i s _ _ hlt hst fun v s' hP hst' hm => ?_)
    have hv := hval i v hP
    have hS' := kept hm hS
    show wpAny _ A.in1 (holding [v] (setAdd S v) >>= _) _ _ s'
    refine wpAny_bind (wpAny_holding ?_)
    unfold setAdd
    refine wpAny_holding (wpAny_bind ((mixKind prog w).pyHash (k := val i) hv ?_))
    have hroom : (firstK val i).length + 1 < scanBound := by have := firstK_le val i; omega
    refine wpAny_setAddHashed_of (knd := mixKind prog w) (s := { s' with toks := s'.toks + 1 }) hv (keyIs_scan hv) hS' hroom fun h' hsb hS2 => ?_
    have hSi : h'.SetOf (mixKind prog w) S (fun k' => (firstK val (i + 1)).any (fun x => decide (x = k'))) (firstK val (i + 1)).length :=
      setOf_eq hS2 (fun k' => by rw [firstK_succ, stepK_any]) (by rw [firstK_succ, stepK_len])
    refine wpAny_pure ⟨plainId_quiet F.plain_set_update_loop _, ih (i + 1) _ (by omega) hlt (W.frame _ s' _ _ hst' (Nat.le_succ _) fun b hb o e => ?_) hSi fun s'' hm'' hS'' => ?_⟩
    · rw [hsb.2 b (fun h : b = S => hSf (by rw [← h]; exact hb))]; exact e
    · refine hR s'' (Moved.trans W.gtrans ((hm.mono hsub).then_heap (Nat.le_succ _) fun b o hb e => ?_) hm'') hS''
      rw [hsb.2 b (fun h : b = S => hb (by rw [h]; exact List.mem_cons_self))]; exact e
end

section
variable {prog : Program} {w : World} {A : Around} {E : Value → Shared → Prop} {s : Shared}
theorem call_setK {l : Addr} {items : Array Value} {val : Nat → Key} {Q : Value → Shared → Prop} (hh : A.handled = none) (hl : s.heap.IsList l items) (hval : ∀ (i : Nat) (v : Value), items[i]? = some v → keyIs (val i) v = true) (hb : items.size + 1 < scanBound)
    (h : ∀ (h' : Heap) (tk : Nat), h'.SetOf (mixKind prog w) s.heap.objs.size (fun k' => (firstK val items.size).any (fun x => decide (x = k'))) (firstK val items.size).length →
      (∀ b o, b < s.heap.objs.size → s.heap.get? b = some o → h'.get? b = some o) → Q (.ref s.heap.objs.size) { s with heap := h', toks := tk }) :
    wpAny (model prog w) A (call (.type "set") [.ref l]) Q E s := by
  obtain ⟨c, tl, hmro⟩ := F.called_set.mro
  have hmade := F.called_set.made
  have hsub := F.called_set.sub
  refine wpAny_call (codeAny_of_tree ?_)
  show wpAny _ _ (callAny (.type "set") _) _ _ _
  refine wpAny_pure ⟨Code.quiet_builtin _ (by decide +kernel), codeAny_builtin F.entry_type_call ?_⟩
  rw [Around.under_plain (weight_type_call_type "set" [.ref l] []) rfl]
  have h1 := F.called_set.notType
  have h2 := F.called_set.canCreate
  have hct := F.typeCall_set_1 (.ref l)
  repeat (any_goals (first | assumption | wp_step))
  refine codeAny_mono (code_set_new_1 (.ref l) (E := E) (Q₁ := fun obj s₁ => ∃ led : Bool, obj = .ref s.heap.objs.size ∧ s₁ = { s with heap := s.heap.push { cls := .type "set", dict := none, data := .set #[] 0 (.fresh 0 0 led) } }) fun led => ⟨led, rfl, rfl⟩) fun r s₁ hr => ?_
  cases r with
  | error e => exact hr
  | ok fl =>
    cases fl with
    | ret obj =>
      obtain ⟨led, rfl, rfl⟩ := hr
      have hS : (s.heap.push { cls := .type "set", dict := none, data := .set #[] 0 (.fresh 0 0 led) }).get? s.heap.objs.size = some { cls := .type "set", dict := none, data := .set #[] 0 (.fresh 0 0 led) } := Heap.get?_push_size _ rfl
      have hT : Shared.TypeIs { s with heap := s.heap.push { cls := .type "set", dict := none, data := .set #[] 0 (.fresh 0 0 led) } } (.ref s.heap.objs.size) "set" := ⟨_, hS, rfl⟩
      have hli := F.called_set.init.lookup
      have hbi := F.called_set.init.bind (.ref s.heap.objs.size)
      repeat (any_goals (first | assumption | wp_step))
      refine codeAny_mono (codeAny_call_builtin (R := wants (fun r s₂ => r = .none ∧ ∃ h' tk, s₂ = { s with heap := h', toks := tk } ∧
          h'.SetOf (mixKind prog w) s.heap.objs.size (fun k' => (firstK val items.size).any (fun x => decide (x = k'))) (firstK val items.size).length ∧
          (∀ b o, b < s.heap.objs.size → s.heap.get? b = some o → h'.get? b = some o)) E) F.called_set.init.plain F.entry_set_init (check_set_init_1 hT ?_)) fun r₂ s₂ hr₂ => ?_
      · obtain ⟨ol, hol, hcl, nl, hdl⟩ := hl
        obtain ⟨ocls, odict, odata, oslots⟩ := ol
        simp only at hcl hdl
        subst hcl; subst hdl
        have hol' : (s.heap.push { cls := .type "set", dict := none, data := .set #[] 0 (.fresh 0 0 led) }).get? l = some { cls := .type "list", dict := odict, data := .seq items nl, slots := oslots } := Heap.get?_push_of_some _ hol
        have hsls := F.sub_list_set
        have hslf := F.sub_list_frozenset
        have hne : (Value.type "list" == Value.type "dict") = false := by decide
        have hl1 : (s.heap.push { cls := .type "set", dict := none, data := .set #[] 0 (.fresh 0 0 led) }).IsList l items := ⟨_, hol', rfl, nl, rfl⟩
        unfold Builtin.«set.__init__» noKeywords Builtin.Frozenset.updateFrom
        generalize hPI : pyIter = PI
        wp_walk
        subst hPI
        refine wpAny_pyIter_list hl1 (wpAny_bind (wpAny_runValue ?_))
        have hlS : l < s.heap.objs.size := Heap.lt_size hol
        have hh3 : A.in1.in1.in1.handled = none := by simp [hh]
        have hneI : l ≠ (s.heap.push { cls := .type "set", dict := none, data := .set #[] 0 (.fresh 0 0 led) }).objs.size := by
          rw [Heap.size_push]; exact Nat.ne_of_lt (Nat.lt_succ_of_lt hlS)
        have hSf : s.heap.objs.size ∉ [(s.heap.push { cls := .type "set", dict := none, data := .set #[] 0 (.fresh 0 0 led) }).objs.size, l] := by
          rw [Heap.size_push]; simp only [List.mem_cons, List.mem_singleton, List.not_mem_nil, or_false, not_or]
          exact ⟨Nat.ne_of_lt (Nat.lt_succ_self _), Nat.ne_of_gt hlS⟩
        refine set_loopK ((Walks.list hh3 _ l hneI items).toS) s.heap.objs.size hSf val hval hb (items.size - 0) 0 _ (by omega) (Nat.zero_le _) ⟨⟨_, Heap.get?_push_size _ rfl, rfl, rfl⟩, (hl1.push _)⟩ ?hS0 ?hR
        case hS0 =>
          have hget : ((s.heap.push { cls := .type "set", dict := none, data := .set #[] 0 (.fresh 0 0 led) }).push { cls := .type "list_iterator", data := .fields #[.ref l, .int 0 0] }).get? s.heap.objs.size
              = some { cls := .type "set", dict := none, data := .set #[] 0 (.fresh 0 0 led) } := Heap.get?_push_of_some _ hS
          exact setOf_eq (S := fun _ => false) (n := 0) ⟨_, #[], 0, _, hget, ⟨rfl, rfl, rfl⟩, rfl, (fun e he => by simp at he), (fun k => by simp), (by decide), (by rfl), rfl⟩ (fun _ => rfl) rfl
        case hR =>
          intro s' hm hS'
          obtain ⟨h', g', d', tk', os'⟩ := s'
          obtain rfl : g' = s.gens := hm.gens
          obtain rfl : d' = s.drawn := hm.drawn
          obtain rfl : os' = s.os := hm.os
          show wpAny _ _ _ _ _ _
          refine wpAny_pure ?_
          show wpAny _ _ (ret Value.none) _ _ _
          refine wpAny_pure ⟨rfl, h', tk', rfl, hS', fun b o hb e => ?_⟩
          have hb1 : b ≠ s.heap.objs.size := Nat.ne_of_lt hb
          have hb2 : b ≠ (s.heap.push { cls := .type "set", dict := none, data := .set #[] 0 (.fresh 0 0 led) }).objs.size := by
            rw [Heap.size_push]; exact Nat.ne_of_lt (Nat.lt_succ_of_lt hb)
          exact hm.heap b o (by simp only [List.mem_cons, List.mem_singleton, List.not_mem_nil, or_false, not_or]; exact ⟨hb1, hb2⟩) (Heap.get?_push_of_some _ (Heap.get?_push_of_some _ e))
      · cases r₂ with
        | error e => exact hr₂
        | ok fl₂ =>
          cases fl₂ with
          | ret r =>
            obtain ⟨rfl, h', tk, rfl, hS', hk'⟩ := hr₂
            repeat (any_goals (first | assumption | wp_step))
            exact h _ _ hS' hk'
          | _ => exact hr₂.elim
    | _ => exact hr.elim
end
/-- len(set(xs)) -/
@[simp ↓] def wLenSet (we : SE) : SE := fun env M Q X => we env M (fun d M1 => ∃ (ds : List D) (ks : List Key), viewL M1 d = some ds ∧ ds.map keyOf = ks.map some ∧ ds.length ≤ 4000 ∧ Q (.int ((dedK ks).length : Nat)) M1) X
theorem rep_keyIs {K : PySem.W.Frag} {S : Hp} {d : D} {k : Key} {x : V} {u : Value} (h : keyOf d = some k) (r : Rep K S d x) (q : RelV x u) : keyIs k u = true := by
  cases d with
  | int i => cases h; obtain rfl : x = .int i := r; obtain ⟨t, rfl⟩ := q; exact keyIs_int i t
  | str i => cases h; obtain ⟨rfl, _⟩ := r; obtain ⟨t, rfl⟩ := q; exact keyIs_str i t
  | _ => cases h
section
variable {X : Cx} {E : WK} {a : Expr} {we : SE} {p p2 q pos : Pos}
theorem ew_lenSet (hc : X.calm = true) (hg : Gl X "len") (hm : X.mg "len" = none) (hg2 : Gl X "set") (hm2 : X.mg "set" = none) (hs : starred a = false) (ha : EW X E a we) : EW X E (.Call (.Name "len" p) [.Call (.Name "set" p2) [a] [] q] [] pos) (wLenSet we) := by
  refine ⟨fun pins s σ H Q I ⟨S, env, M, Qd, Qx, ok, en, q, k, x⟩ => ?_⟩
  refine Call_ (ld_blt I hg hm boot_len ?_)
  refine PyProof.Rows.callWith_builtin1 (PyProof.Rows.args_cons ?_ rfl) rfl rfl
  refine Call_ (ld_blt I hg2 hm2 boot_set ?_)
  refine PyProof.Rows.callWith_type1 (PyProof.Rows.args_cons (thn (ha.run pins s σ H (fun x1 H1 => ∃ S1 M1 ds ks, Ex S S1 ∧ Ok X.K S1 M1 H1 ∧ (∃ l xs, x1 = .ref l ∧ SqL X.K H1 l xs ∧ RepL X.K S1 ds xs) ∧ ds.map keyOf = ks.map some ∧ ds.length ≤ 4000 ∧ Qd (.int ((dedK ks).length : Nat)) M1) I ⟨S, env, M, _, Qx, ok, en, q, fun d v S1 M1 H1 q1 e1 ok1 r1 => ?_, x⟩) fun v s1 ⟨x, H1, I1, r1, S1, M1, ds, ks, e1, ok1, ⟨l, xs, el, hq, rl⟩, hk, hl, q1⟩ => PyProof.Rows.args_nil ?_) (star_cons hs _)) (star_cons hs _) rfl
  · obtain ⟨ds, ks, h1, h2, h3, q1⟩ := q1
    obtain ⟨l, xs, e2, h4, h5⟩ := view_rep ok1 r1 h1
    exact ⟨S1, M1, ds, ks, e1, ok1, ⟨l, xs, e2, .inl (.inl h4), h5⟩, h2, h3, q1⟩
  · subst el
    obtain rfl : v = Value.ref l := r1
    obtain ⟨its, r, pl, hz⟩ := I1.list hq
    have hl1 := rl.length
    have hl2 := r.length
    have hlk : ds.length = ks.length := by have := congrArg List.length hk; simpa using this
    have hsz : its.toArray.size = ks.length := by rw [List.size_toArray]; omega
    refine call_setK (val := fun i => ks.getD i (.inl 0)) (I1.ok.hd hc) pl.isList (fun i v hv => ?_) (by rw [hsz]; unfold scanBound; omega) fun h' tk hS hk2 => ?_
    · have hv' : its[i]? = some v := by simpa using hv
      have hi : i < its.length := (List.getElem?_eq_some_iff.mp hv').1
      obtain ⟨d, hd⟩ : ∃ d, ds[i]? = some d := ⟨ds[i]'(by omega), by simp⟩
      obtain ⟨x, hx, rx⟩ := rl.get hd
      obtain ⟨u, hu, ru⟩ := r.get hx
      rw [hv'] at hu; cases hu
      have e : (ds.map keyOf)[i]? = (ks.map some)[i]? := by rw [hk]
      rw [List.getElem?_map, List.getElem?_map, hd, List.getElem?_eq_getElem (show i < ks.length by omega)] at e
      have e' : keyOf d = some ks[i] := Option.some.inj e
      show keyIs (ks.getD i (.inl 0)) v = true
      rw [List.getD_eq_getElem?_getD, List.getElem?_eq_getElem (show i < ks.length by omega)]
      exact rep_keyIs e' rx ru
    · refine PyProof.Rows.args_nil ?_
      have efk : firstK (fun i => ks.getD i (.inl 0)) its.toArray.size = dedK ks := by
        unfold firstK
        rw [hsz]
        congr 1
        refine List.ext_getElem? fun i => ?_
        rw [List.getElem?_map]
        by_cases hi : i < ks.length
        · rw [List.getElem?_range hi]; simp [hi]
        · rw [List.getElem?_eq_none (by simp; omega), List.getElem?_eq_none (by omega)]; rfl
      rw [efk] at hS
      obtain ⟨o, es, ep, t, ho, hex, hd, _, _, _, hf, hn⟩ := hS
      have I2 : Inv X pins σ H1 { s1 with heap := h', toks := tk } := I1.kept fun b o e => hk2 b o (Heap.lt_size e) e
      have hdl : (dedK ks).length ≤ 4000 := by rw [← efk]; exact Nat.le_trans (firstK_le _ _) (by rw [hsz]; omega)
      exact call_len_set ho hex hd hf (by rw [hn]; omega) ⟨.int (dedK ks).length, H1, I2.tok _, ⟨_, by rw [hn]⟩, k _ _ S1 M1 H1 q1 e1 ok1 rfl⟩
end
end FL
set_option Elab.async false
set_option linter.all false
set_option maxRecDepth 100000
set_option maxHeartbeats 4000000
namespace FL
open PySem PySem.Spec PyProof.Rows L2 Evl
/-! ### sorted(d.items()), the keys texts -/
theorem text_tri (x y : Str) : x.cps.toList < y.cps.toList ∨ x = y ∨ y.cps.toList < x.cps.toList := by
  by_cases h : x.cps.toList < y.cps.toList
  · exact .inl h
  by_cases g : y.cps.toList < x.cps.toList
  · exact .inr (.inr g)
  · have e := List.le_antisymm (List.not_lt.mp g) (List.not_lt.mp h)
    obtain ⟨x⟩ := x; obtain ⟨y⟩ := y
    right; left
    congr 1
    exact Array.toList_inj.mp e
def rankT (ks : List Str) (x : Str) : Int := ((ks.filter fun y => decide (y.cps.toList < x.cps.toList)).length : Nat)
theorem filter_sub {α : Type} {p q : α → Bool} (h : ∀ a, p a = true → q a = true) : ∀ l : List α, (l.filter p).Sublist (l.filter q)
  | [] => List.Sublist.slnil
  | a :: l => by
    have ih := filter_sub h l
    rw [List.filter_cons, List.filter_cons]
    by_cases hp : p a = true
    · rw [if_pos hp, if_pos (h a hp)]; exact ih.cons_cons a
    · rw [if_neg hp]
      split
      · exact ih.cons a
      · exact ih
theorem rankT_lt {ks : List Str} {x y : Str} (hx : x ∈ ks) (h : x.cps.toList < y.cps.toList) : rankT ks x < rankT ks y := by
  unfold rankT
  have sub := filter_sub (p := fun z : Str => decide (z.cps.toList < x.cps.toList)) (q := fun z : Str => decide (z.cps.toList < y.cps.toList)) (fun z hz => decide_eq_true (List.lt_trans (of_decide_eq_true hz) h)) ks
  have hl := sub.length_le
  have hne : (ks.filter fun z => decide (z.cps.toList < x.cps.toList)).length ≠ (ks.filter fun z => decide (z.cps.toList < y.cps.toList)).length := fun e => by
    have e2 := sub.eq_of_length e
    have m : x ∈ ks.filter fun z => decide (z.cps.toList < y.cps.toList) := List.mem_filter.mpr ⟨hx, decide_eq_true h⟩
    rw [← e2] at m
    exact List.lt_irrefl _ (of_decide_eq_true (List.mem_filter.mp m).2)
  omega
theorem rankT_ok {ks : List Str} {x y : Str} (hx : x ∈ ks) (hy : y ∈ ks) : decide (x.cps.toList < y.cps.toList) = decide (rankT ks x < rankT ks y) := by
  rcases text_tri x y with h | rfl | h
  · rw [decide_eq_true h, decide_eq_true (rankT_lt hx h)]
  · rw [decide_eq_false (List.lt_irrefl _), decide_eq_false (Int.lt_irrefl _)]
  · rw [decide_eq_false (fun g => List.lt_irrefl _ (List.lt_trans g h)), decide_eq_false (fun g => absurd (rankT_lt hy h) (by omega))]
section
variable {prog : Program} {w : World} {A : Around} {E : Value → Shared → Prop} {s : Shared}
theorem eqBool_same {a : Addr} {Q : Bool → Shared → Prop} (h : Q true s) : wpAny (model prog w) A (eqBool (.ref a) (.ref a)) Q E s := by
  unfold eqBool
  refine wpAny_holding ?_
  rw [if_pos (beq_self_eq_true _)]
  exact wpAny_bind (wpAny_rule (wpAny_pure h))
/-- v is a pair of the text y and an object -/
def PairTx (h : Heap) (v : Value) (y : Str) : Prop := ∃ (a b : Addr) (t : Tok), v = .ref a ∧ IsTup h a #[.str y t, .ref b]
def textOf (h : Heap) (v : Value) : Str := DT.txOf (DT.seqAt0 h (DT.refOf (some v)))
theorem PairTx.text {h : Heap} {v : Value} {y : Str} (x : PairTx h v y) : textOf h v = y := by
  obtain ⟨a, b, t, rfl, h1⟩ := x
  show DT.txOf (DT.seqAt0 h a) = y
  rw [DT.seqAt0_of h1]; rfl
theorem firstsT {h : Heap} : ∀ vs : List Value, (∀ v ∈ vs, ∃ y, PairTx h v y) → ∃ fs : List Value, PySem.W.KatTups h vs fs ∧ fs.length = vs.length ∧ ∀ f ∈ fs, ∃ y t, f = Value.str y t
  | [], _ => ⟨[], PySem.W.KatTups.nil, rfl, fun f hf => nomatch hf⟩
  | v :: vs, x => by
    obtain ⟨fs, k, hl, hi⟩ := firstsT vs fun u hu => x u (List.mem_cons_of_mem _ hu)
    obtain ⟨y, a, b, t, rfl, o, ho, hc, n, hd⟩ := x v List.mem_cons_self
    exact ⟨.str y t :: fs, PySem.W.KatTups.cons ho hc hd rfl k, by simp [hl], fun f hf => (List.mem_cons.mp hf).elim (fun e => ⟨y, t, e⟩) (hi f)⟩
/-- what the sort asks of such pairs -/
theorem kindT {vs : List Value} {ρ : Str → Int} (h2 : 2 ≤ vs.length) (x : ∀ v ∈ vs, ∃ y, PairTx s.heap v y) (hnd : ∀ v ∈ vs, ∀ u ∈ vs, textOf s.heap v = textOf s.heap u → v = u)
    (hρ : ∀ v ∈ vs, ∀ u ∈ vs, decide ((textOf s.heap v).cps.toList < (textOf s.heap u).cps.toList) = decide (ρ (textOf s.heap v) < ρ (textOf s.heap u))) (Q : SortKind → Shared → Prop)
    (h : ∀ κ, TS.Cmp prog w A s κ (pairsOf vs) (fun v => ρ (textOf s.heap v)) → Q κ s) : wpAny (model prog w) A (keyKind' vs.toArray) Q E s := by
  obtain ⟨fs, k, hl, hi⟩ := firstsT vs x
  refine PySem.W.kat_kind (T := Value.type "str") k (by omega) (fun f hf => ?_) rfl (h _ ?_)
  · obtain ⟨y, t, rfl⟩ := hi f hf
    exact PySem.W.Looks.of_pure rfl
  · intro p q hp hq Q' E' hQ
    rw [pairsOf_toList] at hp hq
    have mp := (mem_zip_self hp).2
    have mq := (mem_zip_self hq).2
    obtain ⟨y, py⟩ := x _ mp
    obtain ⟨z, pz⟩ := x _ mq
    have hr := hρ _ mp _ mq
    rw [py.text, pz.text] at hr
    have hQ2 : Q' (decide (ρ (textOf s.heap p.1) < ρ (textOf s.heap q.1))) s := hQ
    rw [py.text, pz.text, ← hr] at hQ2
    have hsame : y = z → p.1 = q.1 := fun e => hnd _ mp _ mq (by rw [py.text, pz.text, e])
    obtain ⟨a, b, t, e1, o, ho, hc, n, hd⟩ := py
    obtain ⟨a', b', t', e2, o', ho', hc', n', hd'⟩ := pz
    rw [e1, e2]
    refine PySem.W.kat_lt ho hd ho' hd' ?_
    show PySem.W.KatLex prog w A _ false Q' [(Value.str y t, Value.str z t'), (Value.ref b, Value.ref b')] 0 s
    by_cases e : y = z
    · have ha : a = a' := by have := hsame e; rw [e1, e2] at this; injection this
      subst ha
      rw [ho] at ho'
      cases ho'
      rw [hd] at hd'
      injection hd' with hd1 hd2
      have hb : b = b' := by injection hd1 with hd3; injection hd3 with _ h4; injection h4 with h5 _; injection h5
      subst hb
      have irr : decide (y.cps.toList < z.cps.toList) = false := by rw [e]; exact decide_eq_false (List.lt_irrefl _)
      rw [irr] at hQ2
      refine PySem.W.kat_cons (wpAny_eqBool_str ?_)
      rw [decide_eq_true e]
      refine PySem.W.kat_yes (PySem.W.kat_cons (eqBool_same ?_))
      exact PySem.W.kat_yes (PySem.W.kat_nil hQ2)
    · refine PySem.W.kat_cons (wpAny_eqBool_str ?_)
      rw [decide_eq_false e]
      exact PySem.W.kat_no (oneLt_any_str hQ2)
end
abbrev keyE (e : Str × V) : Key × V := (Sum.inr e.1, e.2)
/-- the pairs ps (where, what) are those of es, rising by their texts -/
structure SortedIt (es : List (Str × V)) (H H' : Hp) (l : Addr) (ps : List (Addr × Str × V)) : Prop where
  perm : (ps.map (·.2)).Perm es
  rise : (ps.map (·.2)).Pairwise fun e f => ¬ f.1.cps.toList < e.1.cps.toList
  old : ∀ b o, H b = some o → H' b = some o
  newL : H l = none
  lst : H' l = some (.lst (ps.map fun z => V.ref z.1))
  pairs : ∀ z ∈ ps, H z.1 = none ∧ H' z.1 = some (.tup [.str z.2.1, z.2.2])
def tSortIt (ta : TE) : TE := fun σ H Q => ta σ H fun x H1 => ∃ (a : Addr) (es : List (Str × V)), x = .ref a ∧ H1 a = some (.dK (es.map keyE)) ∧ (∀ e ∈ es, ∃ b, e.2 = .ref b) ∧ es.length < 64 ∧ ∀ H' l ps, SortedIt es H1 H' l ps → Q (.ref l) H'
section
variable {X : Cx} {o : Expr} {ta : TE} {p apos cpos pos : Pos}
theorem pe_sortIt (hc : X.calm = true) (hg : Gl X "sorted") (hm : X.mg "sorted" = none) (ho : PE X o ta) (hb : notCall0 o = true) (hline : (apos.endLine == cpos.line) = true) : PE X (.Call (.Name "sorted" p) [.Call (.Attribute o "items" apos) [] [] cpos] [] pos) (tSortIt ta) := by
  refine ⟨fun pins s σ H Q I h => ?_⟩
  refine Call_ (ld_blt (u := .builtin "sorted") I hg hm (by decide +kernel) ?_)
  refine callWith_builtin1 (args_cons ?_ rfl) rfl rfl
  refine wpAny_Call_method (T := "dict") (id := "dict.items") (base_of hb) rfl hline PySem.F.plainAttrs_dict PySem.F.slot_dict_items PySem.F.type_dict_items (thn (ho.run pins s σ H _ I h) fun u s1 ⟨x, H1, I1, rx, a, es, ex, ha, hv, h64, q⟩ => ?_)
  subst ex
  obtain rfl : u = Value.ref a := rx
  obtain ⟨hz, hsm, vs, rel, dd⟩ := dk_of I1.hok ha
  refine ⟨dd.typeIs, dd.mapOf.noDict, ?_⟩
  obtain ⟨o0, ents, ep, hget, hexact, hdata, _, hpairs, hndk⟩ := dd
  have kvl : es.length = vs.length := by have := Paired.length rel; rwa [List.length_map] at this
  -- the view
  have raw : DT.Raw s1.heap a ents ep := ⟨o0, hget, hexact, hdata⟩
  have hes : ents.size = es.length := by rw [kvl, ← hpairs.length]; simp
  show wpAny _ _ (callWith cpos (.builtin "dict.items") [.ref a] [] []) _ X.xe s1
  refine Calls.callWith_builtin rfl (PySem.evalArgs_none ?_)
  refine DT.callItems (es := ents) (ep := ep) hsm raw ?_
  refine args_nil ?_
  have I2 : Inv X pins σ H1 { s1 with heap := s1.heap.push { cls := .type "dict_items", data := .fields #[.ref a] } } := I1.kept (t' := s1.toks) fun b ob q => Heap.get?_push_of_some _ q
  have view : (s1.heap.push { cls := .type "dict_items", data := .fields #[.ref a] }).IsItemsView s1.heap.objs.size a := ⟨_, Heap.get?_push_size _ rfl, rfl, rfl⟩
  have raw2 := raw.push { cls := .type "dict_items", data := .fields #[.ref a] }
  generalize s1.heap.push { cls := .type "dict_items", data := .fields #[.ref a] } = hv1 at I2 view raw2 ⊢
  refine DT.sortedI (s := { s1 with heap := hv1 }) (es := ents) (ep := ep) (I2.ok.hd hc) view raw2 (by rw [hes, sizeLine_eq]; omega) fun hM tk as keepM ltM lenA made => ?_
  have lenE : as.length = es.length := by omega
  have ndA : as.Nodup := made.rise.imp fun h => Nat.ne_of_lt h
  -- the pairs that were laid
  have laid : ∀ (j : Nat) (b : Addr), as[j]? = some b → ∃ (e : Str × V) (c : Addr) (t : Tok), es[j]? = some e ∧ e.2 = .ref c ∧ hM.get? b = some { cls := .type "tuple", data := .seq #[Value.str e.1 t, Value.ref c] } := by
    intro j b hj
    obtain ⟨en, hen, hgb⟩ := made.pairs j b hj
    have hen2 : ents.toList[j]? = some en := by rw [Array.getElem?_toList]; exact hen
    have hjl : j < vs.length := by
      have := (List.getElem?_eq_some_iff.mp hen2).1
      rw [hpairs.length] at this
      exact this
    have k1 := hpairs.get? hen2 (k := vs[j].1) (v := vs[j].2) (List.getElem?_eq_getElem hjl)
    obtain ⟨y, hy, ek, rv⟩ := L2.DX.pget rel (List.getElem?_eq_getElem hjl)
    rw [List.getElem?_map] at hy
    obtain ⟨e, he, rfl⟩ := Option.map_eq_some_iff.mp hy
    obtain ⟨c, hc2⟩ := hv e (List.mem_of_getElem? he)
    have ek' : Sum.inr e.1 = vs[j].1 := ek
    rw [← ek'] at k1
    obtain ⟨t, hkey⟩ := Value.isStrOf_shape (x := e.1) (v := en.key) k1.1
    have rv' : RelV e.2 vs[j].2 := rv
    rw [hc2] at rv'
    have rv2 : vs[j].2 = .ref c := rv'
    refine ⟨e, c, t, he, hc2, ?_⟩
    rw [hgb, hkey, k1.2, rv2]
  have ndT : (es.map (·.1)).Nodup := by
    have e1 : vs.map (·.1) = es.map fun e => (Sum.inr e.1 : Key) := by
      have := rel.keys
      rw [List.map_map] at this
      exact this.symm
    rw [e1] at hndk
    exact List.pairwise_map.mpr ((List.pairwise_map.mp hndk).imp fun h e => h (congrArg Sum.inr e))
  -- the list that is sorted
  have hobj : (hM.push { cls := .type "list", data := .seq (as.map Value.ref).toArray }).get? hM.objs.size = some (seqObj "list" (as.map Value.ref).toArray 0) := Heap.get?_push_size _ rfl
  have oldL : ∀ b o, hM.get? b = some o → (hM.push { cls := .type "list", data := .seq (as.map Value.ref).toArray }).get? b = some o := fun b o e => Heap.get?_push_of_some _ e
  have neL : ∀ b o, hM.get? b = some o → b ≠ hM.objs.size := fun b o e => Nat.ne_of_lt (Heap.lt_size e)
  generalize hM.push { cls := .type "list", data := .seq (as.map Value.ref).toArray } = hL at hobj oldL ⊢
  have midP : ∀ (j : Nat) (b : Addr), as[j]? = some b → ∃ e : Str × V, es[j]? = some e ∧ PairTx (TS.midHeap hL hM.objs.size (as.map Value.ref)) (.ref b) e.1 := by
    intro j b hj
    obtain ⟨e, c, t, he, _, hg2⟩ := laid j b hj
    exact ⟨e, he, b, c, t, rfl, _, TS.midHeap_old (neL _ _ hg2) (oldL _ _ hg2), rfl, 0, rfl⟩
  have ofV : ∀ v ∈ as.map Value.ref, ∃ (j : Nat) (b : Addr) (e : Str × V), v = .ref b ∧ as[j]? = some b ∧ es[j]? = some e ∧ textOf (TS.midHeap hL hM.objs.size (as.map Value.ref)) v = e.1 := by
    intro v hv'
    obtain ⟨b, hb2, rfl⟩ := List.mem_map.mp hv'
    obtain ⟨j, hj⟩ := List.mem_iff_getElem?.mp hb2
    obtain ⟨e, he, hp⟩ := midP j b hj
    exact ⟨j, b, e, rfl, hj, he, hp.text⟩
  have hrank : ∀ v ∈ as.map Value.ref, ∀ u ∈ as.map Value.ref, decide ((textOf (TS.midHeap hL hM.objs.size (as.map Value.ref)) v).cps.toList < (textOf (TS.midHeap hL hM.objs.size (as.map Value.ref)) u).cps.toList) =
      decide (rankT (es.map (·.1)) (textOf (TS.midHeap hL hM.objs.size (as.map Value.ref)) v) < rankT (es.map (·.1)) (textOf (TS.midHeap hL hM.objs.size (as.map Value.ref)) u)) := by
    intro v hv1 u hu1
    obtain ⟨_, _, e1, _, _, he1, t1⟩ := ofV v hv1
    obtain ⟨_, _, e2, _, _, he2, t2⟩ := ofV u hu1
    rw [t1, t2]
    exact rankT_ok (List.mem_map.mpr ⟨_, List.mem_of_getElem? he1, rfl⟩) (List.mem_map.mpr ⟨_, List.mem_of_getElem? he2, rfl⟩)
  have hsame : ∀ v ∈ as.map Value.ref, ∀ u ∈ as.map Value.ref, textOf (TS.midHeap hL hM.objs.size (as.map Value.ref)) v = textOf (TS.midHeap hL hM.objs.size (as.map Value.ref)) u → v = u := by
    intro v hv1 u hu1 e
    obtain ⟨j1, b1, e1, rfl, hj1, he1, t1⟩ := ofV v hv1
    obtain ⟨j2, b2, e2, rfl, hj2, he2, t2⟩ := ofV u hu1
    rw [t1, t2] at e
    have q1 : (es.map (·.1))[j1]? = some e1.1 := by rw [List.getElem?_map, he1]; rfl
    have q2 : (es.map (·.1))[j2]? = some e1.1 := by rw [List.getElem?_map, he2, e]; rfl
    obtain rfl : j1 = j2 := (List.getElem?_inj (List.getElem?_eq_some_iff.mp q1).1 ndT).mp (q1.trans q2.symm)
    rw [hj1] at hj2
    rw [Option.some.inj hj2]
  refine wpAny_call_entry (T := "list") slot_list_sort
    ⟨_, hobj, rfl⟩ entry_list_sort (SK.plain_sort (s := { s1 with heap := hL, toks := tk }) (r := fun v => rankT (es.map (·.1)) (textOf (TS.midHeap hL hM.objs.size (as.map Value.ref)) v)) hobj (by rw [List.length_map]; omega)
      (fun h2 Qk hQk => kindT (s := { s1 with heap := TS.midHeap hL hM.objs.size (as.map Value.ref), toks := tk }) (ρ := rankT (es.map (·.1))) h2 (fun v hv1 => ?_) hsame hrank Qk hQk) fun ps out o1 o2 o3 => ⟨.none, rfl, ?_⟩) (args_list_sort _)
  · obtain ⟨j, b, e, rfl, hj, he, _⟩ := ofV v hv1
    obtain ⟨e', _, hp⟩ := midP j b hj
    exact ⟨_, hp⟩
  · obtain ⟨zs, permZ, eqZ⟩ := perm_lift (fun z : Addr × (Str × V) => (Value.ref z.1, Value.ref z.1)) o2 (as.zip es) (L2.DX.zip_self Value.ref as es lenE)
    have place : ∀ z ∈ zs, ∃ j : Nat, as[j]? = some z.1 ∧ es[j]? = some z.2 := fun z hz2 => by
      obtain ⟨j, hj⟩ := List.mem_iff_getElem?.mp (permZ.mem_iff.mp hz2)
      exact ⟨j, List.getElem?_zip_eq_some.mp hj⟩
    have outZ : out.toList = zs.map fun z => Value.ref z.1 := by rw [o1, ← eqZ, List.map_map]; rfl
    have permE : (zs.map (·.2)).Perm es := by
      have e := permZ.map (·.2)
      rwa [show (as.zip es).map (·.2) = es from List.map_snd_zip (by rw [lenE]; exact Nat.le_refl _)] at e
    have textZ : ∀ z ∈ zs, textOf (TS.midHeap hL hM.objs.size (as.map Value.ref)) (.ref z.1) = z.2.1 := fun z hz2 => by
      obtain ⟨j, j1, j2⟩ := place z hz2
      obtain ⟨e, he, hp⟩ := midP j _ j1
      rw [j2] at he
      cases he
      exact hp.text
    have riseZ : (zs.map (·.2)).Pairwise fun e f => ¬ f.1.cps.toList < e.1.cps.toList := by
      rw [← eqZ, List.pairwise_map] at o3
      rw [List.pairwise_map]
      refine List.Pairwise.imp_of_mem (fun {x y} hx hy hr => ?_) o3
      have hr2 : rankT (es.map (·.1)) (textOf (TS.midHeap hL hM.objs.size (as.map Value.ref)) (.ref x.1)) ≤ rankT (es.map (·.1)) (textOf (TS.midHeap hL hM.objs.size (as.map Value.ref)) (.ref y.1)) := hr
      rw [textZ x hx, textZ y hy] at hr2
      have mem : ∀ z ∈ zs, z.2.1 ∈ es.map (·.1) := fun z hz2 => List.mem_map.mpr ⟨z.2, permE.mem_iff.mp (List.mem_map.mpr ⟨z, hz2, rfl⟩), rfl⟩
      have hd := rankT_ok (mem y hy) (mem x hx)
      rw [decide_eq_false (show ¬ rankT (es.map (·.1)) y.2.1 < rankT (es.map (·.1)) x.2.1 by omega)] at hd
      exact of_decide_eq_false hd
    -- behind the sort
    have oldF : ∀ b o, b ≠ hM.objs.size → hL.get? b = some o → (sortedHeap hL hM.objs.size (as.map Value.ref) out).get? b = some o := fun b o hb2 e => (sortedHeap_old hb2 (Heap.lt_size e)).trans e
    have oldS : ∀ b o, hv1.get? b = some o → (sortedHeap hL hM.objs.size (as.map Value.ref) out).get? b = some o := fun b o e => oldF b o (neL _ _ (keepM b o e)) (oldL _ _ (keepM b o e))
    obtain ⟨epF, hF⟩ := sortedHeap_at (vs := as.map Value.ref) (out := out) hobj
    have freeL : H1 hM.objs.size = none := I2.hok.fresh (Nat.le_of_lt ltM)
    have I3 : Inv X pins σ H1 { s1 with heap := sortedHeap hL hM.objs.size (as.map Value.ref) out, toks := tk } := I2.kept (t' := tk) oldS
    have lenZ : (zs.map fun z => V.ref z.1).length ≤ sizeLine := by
      have e := permE.length_eq
      rw [List.length_map] at e
      rw [List.length_map, e, sizeLine_eq]; omega
    have valZ : Vals (zs.map fun z => V.ref z.1) out.toList := by
      rw [outZ]
      exact vals_maps (fun z : Addr × (Str × V) => V.ref z.1) (fun z => Value.ref z.1) zs fun _ _ => rfl
    have I4 : Inv X pins σ (upd H1 hM.objs.size (.lst (zs.map fun z => V.ref z.1))) { s1 with heap := sortedHeap hL hM.objs.size (as.map Value.ref) out, toks := tk } :=
      I3.take (t' := tk) (fun b ob _ e => e) (I2.fpOk (Nat.le_of_lt ltM) freeL) ⟨lenZ, out.toList, epF, valZ, hF⟩
    obtain ⟨H2, I5, grow, got⟩ := L2.DX.takeT (P := fun b us => ∃ (j : Nat) (e : Str × V), as[j]? = some b ∧ es[j]? = some e ∧ us = [.str e.1, e.2] ∧ H1 b = none) I2 as _ I4 ndA fun b hb2 => by
      obtain ⟨j, hj⟩ := List.mem_iff_getElem?.mp hb2
      obtain ⟨e, c, t, he, hc2, hgb⟩ := laid j b hj
      have hbl : hv1.objs.size ≤ b := Nat.le_of_lt (made.above b hb2)
      have fb : H1 b = none := I2.hok.fresh hbl
      refine ⟨hbl, by rw [upd_ne (neL _ _ hgb)]; exact fb, [.str e.1, e.2], ⟨j, e, hj, he, rfl, fb⟩, fun H3 => ⟨(by rw [sizeLine_eq]; show 2 ≤ 16777216; omega), [Value.str e.1 t, Value.ref c], .cons ⟨t, rfl⟩ (.cons (by rw [hc2]; rfl) .nil), ⟨_, oldF _ _ (neL _ _ hgb) (oldL _ _ hgb), rfl, 0, rfl⟩⟩⟩
    refine ⟨.ref hM.objs.size, H2, I5, rfl, q H2 hM.objs.size zs ⟨permE, riseZ, fun b ob e => grow b ob (by rw [upd_ne (ne_of_none e freeL)]; exact e), freeL, grow _ _ upd_same, fun z hz2 => ?_⟩⟩
    obtain ⟨i, i1, i2⟩ := place z hz2
    obtain ⟨us, ⟨j, e, j1, j2, eu, fb⟩, hH⟩ := got z.1 (List.mem_of_getElem? i1)
    obtain rfl : i = j := (List.getElem?_inj (List.getElem?_eq_some_iff.mp i1).1 ndA).mp (i1.trans j1.symm)
    have ee : e = z.2 := Option.some.inj (j2.symm.trans i2)
    rw [eu, ee] at hH
    exact ⟨fb, hH⟩
end
end FL
set_option Elab.async false
set_option linter.all false
set_option maxRecDepth 100000
set_option maxHeartbeats 4000000
namespace FL
open PySem PySem.Spec PyProof.Rows L2 Evl
abbrev keyF (e : Str × D) : Key × D := (Sum.inr e.1, e.2)
theorem repE {K : PySem.W.Frag} {S : Hp} : ∀ {es : List (Str × D)} {vs : List (Key × V)}, RepKV K S (es.map keyF) vs → ∃ es' : List (Str × V), vs = es'.map keyE ∧ RepKV K S es es'
  | [], _, h => ⟨[], h, rfl⟩
  | e :: r, _, ⟨x, t, h1, h2, h3⟩ => by
    obtain ⟨es', rfl, h4⟩ := repE h3
    exact ⟨(e.1, x) :: es', h1, x, es', rfl, h2, h4⟩
theorem RepKV.perm {α : Type} {K : PySem.W.Frag} {S : Hp} {l1 l2 : List (α × V)} (h : l1.Perm l2) : ∀ {es : List (α × D)}, RepKV K S es l2 → ∃ ys, ys.Perm es ∧ RepKV K S ys l1 := by
  induction h with
  | nil => intro es h; exact ⟨es, List.Perm.refl _, h⟩
  | cons x h ih =>
    intro es h2
    cases es with
    | nil => cases h2
    | cons e r =>
      obtain ⟨y, t, e1, r1, r2⟩ := h2
      injection e1 with e2 e3
      subst e2 e3
      obtain ⟨ys, p, q⟩ := ih r2
      exact ⟨e :: ys, p.cons e, y, _, rfl, r1, q⟩
  | swap x y l =>
    intro es h2
    cases es with
    | nil => cases h2
    | cons e r =>
      obtain ⟨a, t, e1, r1, r2⟩ := h2
      injection e1 with e2 e3
      subst e2
      rw [← e3] at r2
      cases r with
      | nil => cases r2
      | cons e' r' =>
        obtain ⟨b, t', f1, s1, s2⟩ := r2
        injection f1 with f2 f3
        subst f2 f3
        exact ⟨e' :: e :: r', List.Perm.swap _ _ _, b, _, rfl, s1, a, _, rfl, r1, s2⟩
  | trans h1 h2 ih1 ih2 =>
    intro es h3
    obtain ⟨ys, p, q⟩ := ih2 h3
    obtain ⟨zs, p2, q2⟩ := ih1 q
    exact ⟨zs, p2.trans p, q2⟩
theorem RepKV.names {α : Type} {K : PySem.W.Frag} {S : Hp} : ∀ {es : List (α × D)} {vs : List (α × V)}, RepKV K S es vs → es.map (·.1) = vs.map (·.1)
  | [], _, h => by rw [show _ = [] from h]; rfl
  | p :: r, _, ⟨x, t, e, _, h2⟩ => by rw [e, List.map_cons, List.map_cons, RepKV.names h2]
theorem RepKV.mem {α : Type} {K : PySem.W.Frag} {S : Hp} : ∀ {es : List (α × D)} {vs : List (α × V)}, RepKV K S es vs → ∀ v ∈ vs, ∃ e ∈ es, e.1 = v.1 ∧ Rep K S e.2 v.2
  | [], _, h, v, hv => by rw [show _ = [] from h] at hv; cases hv
  | p :: r, _, ⟨x, t, e, h1, h2⟩, v, hv => by
    rw [e] at hv
    rcases List.mem_cons.mp hv with rfl | hv
    · exact ⟨p, List.mem_cons_self, rfl, h1⟩
    · obtain ⟨e2, m, q⟩ := RepKV.mem h2 v hv
      exact ⟨e2, List.mem_cons_of_mem _ m, q⟩
/-- sorted(d.items()): the pairs, rising by their texts -/
@[simp ↓] def wSortIt (we : SE) : SE := fun env M Q X => we env M (fun d M1 => ∃ (a : Addr) (es : List (Str × D)), d = .ptr a ∧ M1 a = some (.md (es.map keyF)) ∧ (∀ e ∈ es, ∃ ds, e.2 = .tup ds) ∧ es.length < 64 ∧
  ∀ ys : List (Str × D), ys.Perm es → ys.Pairwise (fun e f => ¬ f.1.cps.toList < e.1.cps.toList) → Q (.lst (ys.map fun e => .tup [.str e.1, e.2])) M1) X
theorem ew_sortIt {X : Cx} {E : WK} {o : Expr} {we : SE} {p apos cpos pos : Pos} (hc : X.calm = true) (hg : Gl X "sorted") (hm : X.mg "sorted" = none) (hb : notCall0 o = true) (hline : (apos.endLine == cpos.line) = true) (ho : EW X E o we) :
    EW X E (.Call (.Name "sorted" p) [.Call (.Attribute o "items" apos) [] [] cpos] [] pos) (wSortIt we) := by
  refine PE.imp (pe_sortIt hc hg hm ho hb hline) fun σ H Q ⟨S, env, M, Qd, Qx, ok, en, q, k, x⟩ => ⟨S, env, M, _, Qx, ok, en, q, fun d v S1 M1 H1 q1 e1 ok1 r1 => ?_, x⟩
  obtain ⟨a, es, rfl, hma, htup, h64, q1⟩ := q1
  obtain rfl : v = .ref a := r1
  obtain ⟨hS, vs, hv, rk, hok⟩ := ok1.own a _ hma
  obtain ⟨es', rfl, re⟩ := repE rk
  have hlen : es'.length = es.length := by have := congrArg List.length re.names; simpa using this.symm
  refine ⟨a, es', rfl, hv, fun e he => ?_, by omega, fun H' l ps so => ?_⟩
  · obtain ⟨e2, m2, _, r2⟩ := re.mem e he
    obtain ⟨ds, ed⟩ := htup e2 m2
    rw [ed] at r2
    obtain ⟨b, _, e3, _⟩ := r2
    exact ⟨b, e3⟩
  · obtain ⟨ys, py, ry⟩ := re.perm so.perm
    have nm := ry.names
    have rise : ys.Pairwise fun e f => ¬ f.1.cps.toList < e.1.cps.toList := by
      have h1 : (ys.map (·.1)).Pairwise fun (e f : Str) => ¬ f.cps.toList < e.cps.toList := by rw [nm]; exact List.pairwise_map.mpr so.rise
      exact List.pairwise_map.mp h1
    let S2 : Hp := fun b => if b = l then H' l else if (ps.any fun z => decide (z.1 = b)) = true then H' b else S1 b
    have inPs : ∀ b, (ps.any fun z => decide (z.1 = b)) = true → ∃ z ∈ ps, z.1 = b := fun b hb => by
      obtain ⟨z, hz, e⟩ := List.any_eq_true.mp hb
      exact ⟨z, hz, of_decide_eq_true e⟩
    have exS : Ex S1 S2 := fun b o hb2 => by
      have hH := ok1.ex b o hb2
      have n1 : b ≠ l := fun e => by rw [e, so.newL] at hH; cases hH
      have n2 : ¬ (ps.any fun z => decide (z.1 = b)) = true := fun e => by
        obtain ⟨z, hz, rfl⟩ := inPs b e
        rw [(so.pairs z hz).1] at hH; cases hH
      have hs : S2 b = S1 b := (if_neg n1).trans (if_neg n2)
      exact hs.trans hb2
    have exH : Ex S2 H' := fun b o hb2 => by
      have hb3 : (if b = l then H' l else if (ps.any fun z => decide (z.1 = b)) = true then H' b else S1 b) = some o := hb2
      by_cases n1 : b = l
      · rw [if_pos n1] at hb3; rw [n1]; exact hb3
      · rw [if_neg n1] at hb3
        by_cases n2 : (ps.any fun z => decide (z.1 = b)) = true
        · rw [if_pos n2] at hb3; exact hb3
        · rw [if_neg n2] at hb3; exact so.old b o (ok1.ex b o hb3)
    have ok2 : Ok X.K S2 M1 H' := ⟨exH, fun b m hm2 => (ok1.own b m hm2).keep exS (fun o => so.old b o) fun h1 h2 => by
      have h3 : (if b = l then H' l else if (ps.any fun z => decide (z.1 = b)) = true then H' b else S1 b) ≠ none := h1
      by_cases n1 : b = l
      · rw [n1]; exact so.newL
      · rw [if_neg n1] at h3
        by_cases n2 : (ps.any fun z => decide (z.1 = b)) = true
        · obtain ⟨z, hz, rfl⟩ := inPs b n2
          exact (so.pairs z hz).1
        · rw [if_neg n2] at h3; exact absurd h2 h3⟩
    refine k _ _ S2 M1 H' (q1 ys py rise) (e1.trans exS) ok2 ⟨l, ps.map fun z => V.ref z.1, rfl, ?_, ?_⟩
    · have hl : S2 l = H' l := if_pos rfl
      exact hl.trans so.lst
    · have okT : ∀ y ∈ ys, PyData.strOk y.1 = true := fun y hy => hok (keyF y) (List.mem_map.mpr ⟨y, py.mem_iff.mp hy, rfl⟩)
      have go : ∀ (zs : List (Addr × Str × V)) (ys : List (Str × D)), (∀ z ∈ zs, z ∈ ps) → (∀ y ∈ ys, PyData.strOk y.1 = true) → RepKV X.K S1 ys (zs.map (·.2)) → RepL X.K S2 (ys.map fun e => D.tup [.str e.1, e.2]) (zs.map fun z => V.ref z.1) := by
        intro zs
        induction zs with
        | nil =>
          intro ys _ _ h
          cases ys with
          | nil => rfl
          | cons y r => obtain ⟨_, _, e, _⟩ := h; cases e
        | cons z zs ih =>
          intro ys hz hy h
          cases ys with
          | nil => cases h
          | cons y r =>
            obtain ⟨x0, t, e, r1, r2⟩ := h
            have e' : z.2 :: zs.map (·.2) = (y.1, x0) :: t := e
            injection e' with e2 e3
            rw [← e3] at r2
            refine RepL.cons ?_ (ih r (fun z' h' => hz z' (List.mem_cons_of_mem _ h')) (fun y' h' => hy y' (List.mem_cons_of_mem _ h')) r2)
            obtain ⟨_, hz2⟩ := so.pairs z (hz z List.mem_cons_self)
            refine ⟨z.1, [.str y.1, x0], rfl, .inl (.inl ?_), RepL.cons ⟨rfl, hy y List.mem_cons_self⟩ (RepL.one (r1.mono exS))⟩
            show (if z.1 = l then H' l else if (ps.any fun w => decide (w.1 = z.1)) = true then H' z.1 else S1 z.1) = _
            have h5 : H' z.1 = some (.tup [.str y.1, x0]) := by rw [hz2, e2]
            by_cases n1 : z.1 = l
            · rw [if_pos n1, ← n1]; exact h5
            · rw [if_neg n1, if_pos (List.any_eq_true.mpr ⟨z, hz z List.mem_cons_self, decide_eq_true rfl⟩)]; exact h5
      exact go ps ys (fun z h => h) okT ry
end FL
set_option Elab.async false
set_option linter.all false
set_option maxRecDepth 100000
set_option maxHeartbeats 4000000
namespace FL
open PySem PySem.Spec PyProof.Rows L2 Evl
/-! ### a tuple so many times, none and once too -/
theorem tup_mul1 (l : Addr) (items : Array Value) (n : Nat) (dd : Option Addr) (sl : Array (Option Value)) (u : Tok) :
    Meets (Builtin.«tuple.__mul__» ⟨[.ref l, .int 1 u], []⟩) (fun _ R s => s.heap.get? l = some { cls := .type "tuple", dict := dd, data := .seq items n, slots := sl } ∧ R (.ok (.ret (Value.ref l))) s) :=
  .of_wp fun prog w A R s h => by
    obtain ⟨hp, g, d, tk, os⟩ := s
    obtain ⟨hl, h⟩ := h
    have f1 := AutoSeq1.idx_int
    wp_walk using wpAny_loadPart' hl
    repeat (first
      | (refine wpAny_ite_false (decide_eq_false (by decide)) ?_; wp_walk using wpAny_loadPart' hl)
      | (refine wpAny_ite_true (decide_eq_true (by simp)) ?_; wp_walk using wpAny_loadPart' hl))
    exact ⟨_, rfl, h⟩
theorem tup_mul0 (l : Addr) (items : Array Value) (n : Nat) (dd : Option Addr) (sl : Array (Option Value)) (x : Int) (u : Tok) (hx : x ≤ 0) (hx2 : -(2 ^ 63) ≤ x) (hi : items.isEmpty = false) :
    Meets (Builtin.«tuple.__mul__» ⟨[.ref l, .int x u], []⟩) (fun _ R s => s.heap.get? l = some { cls := .type "tuple", dict := dd, data := .seq items n, slots := sl } ∧
      R (.ok (.ret (Value.ref s.heap.objs.size))) { s with heap := s.heap.push { cls := Value.type "tuple", data := Data.seq #[] }, toks := s.toks }) :=
  .of_wp fun prog w A R s h => by
    obtain ⟨hp, g, d, tk, os⟩ := s
    obtain ⟨hl, h⟩ := h
    have f1 := AutoSeq1.idx_int
    have c0 : (decide (x < -(2 ^ 63)) || decide (x ≥ 2 ^ 63)) = false := by rw [decide_eq_false (by omega), decide_eq_false (by omega)] <;> rfl
    have c1 : (items.isEmpty || x == 1) = false := by rw [hi, Bool.false_or]; exact beq_eq_false_iff_ne.mpr (by omega)
    have c2 : (decide (x ≤ 0) || items.isEmpty) = true := by rw [decide_eq_true hx]; rfl
    wp_walk using wpAny_loadPart' hl
    repeat (first
      | (refine wpAny_ite_false (decide_eq_false (by rw [c0]; exact Bool.false_ne_true)) ?_; wp_walk using wpAny_loadPart' hl)
      | (refine wpAny_ite_false (decide_eq_false (by rw [c1]; exact Bool.false_ne_true)) ?_; wp_walk using wpAny_loadPart' hl)
      | (refine wpAny_ite_true (decide_eq_true (by rw [c2])) ?_; wp_walk using wpAny_loadPart' hl))
    exact ⟨_, rfl, h⟩
def rMulT (K : PySem.W.Frag) : R2 := fun x y H Q => ∃ l k xs, x = .ref l ∧ y = .int k ∧ SqT K H l xs ∧ xs ≠ [] ∧ -(2 ^ 63) ≤ k ∧ k ≤ 1000 ∧ xs.length ≤ 1000 ∧ (k = 1 → Q (.ref l) H) ∧ (k ≤ 0 → ∀ p, H p = none → Q (.ref p) (upd H p (.tup []))) ∧
  (2 ≤ k → ∀ p, H p = none → Q (.ref p) (upd H p (.tup (List.replicate k.toNat xs).flatten)))
theorem op_mulT {X : Cx} : OpR X (binaryOp .Mult) (rMulT X.K) := by
  intro pins s σ H x y v u Q I rx ry ⟨l, k, xs, ex, ey, hT, hne, k0, k1, hz, q1, q0, q2⟩
  by_cases h2 : 2 ≤ k
  · exact op_repT pins s σ H x y v u Q I rx ry ⟨l, k, xs, ex, ey, hT, hne, h2, k1, hz, q2 h2⟩
  · subst ex ey
    obtain rfl : v = Value.ref l := rx
    obtain ⟨t, rfl⟩ := ry
    obtain ⟨its, r, ⟨⟨cls, dd, data, sl⟩, ho, hc, n, hd⟩, hs⟩ := I.tuple hT
    simp only at hc hd
    subst hc hd
    have hi : its.toArray.isEmpty = false := by
      cases its with
      | nil => have := r.length; exact absurd (List.eq_nil_of_length_eq_zero this) hne
      | cons a b => rfl
    have via : ∀ {P : Value → Shared → Prop}, wpAny (model X.prog X.w) X.A (call (.builtin "tuple.__mul__") [.ref l, .int k t]) P X.xe s → wpAny (model X.prog X.w) X.A (binaryOp .Mult (.ref l) (.int k t)) P X.xe s := fun {P} hcall =>
      wpAny_binaryOp_repeat_ref (T := "tuple") (U := "int") (by decide) ⟨_, ho, rfl⟩ (fun s' => typeIs_int s' k t) noFill_tuple_mul PySem.F.fills_int_mul PySem.F.slot_int_rmul repeat_tuple PySem.F.slot_int_index.lookup
        (call_meets PySem.F.slot_int_rmul (typeIs_int s k t) PySem.F.entry_int_rmul (PySem.F.args_int_rmul_2 _ _) (int_rmul_tuple k t l its.toArray n dd sl) ⟨ho, rfl, ⟨_, ho, rfl⟩, hcall⟩)
    refine via ?_
    by_cases h1 : k = 1
    · subst h1
      exact call_meets PySem.F.slot_tuple_mul ⟨_, ho, rfl⟩ PySem.F.entry_tuple_mul (PySem.F.args_tuple_mul_2 _ _) (tup_mul1 l its.toArray n dd sl t) ⟨ho, .ref l, H, I, rfl, q1 rfl⟩
    · refine call_meets PySem.F.slot_tuple_mul ⟨_, ho, rfl⟩ PySem.F.entry_tuple_mul (PySem.F.args_tuple_mul_2 _ _) (tup_mul0 l its.toArray n dd sl k t (by omega) k0 hi) ⟨ho, ?_⟩
      exact ⟨.ref s.heap.objs.size, _, I.laid (t' := s.toks) (o := .tup []) (fun b ob q => Heap.get?_push_of_some _ q) (Nat.le_refl _) ⟨by decide, [], .nil, IsTup.new _ _⟩, rfl, q0 (by omega) _ (I.hok.fresh (Nat.le_refl _))⟩
@[simp ↓] def sMulA (own : Bool) : Op2 := fun a b M Q => match a, b with
  | .tup xs, .int k => xs ≠ [] ∧ -(2 ^ 63) ≤ k ∧ k ≤ 1000 ∧ xs.length ≤ 1000 ∧ Q (.tup (List.replicate k.toNat xs).flatten) M
  | a, b => sMul own a b M Q
abbrev rMulA (K : PySem.W.Frag) : R2 := fun x y H Q => rMul x y H Q ∨ rMulT K x y H Q
theorem orMulA {X : Cx} : OpR X (binaryOp .Mult) (rMulA X.K) := OpR.or orMul op_mulT
theorem good_mulA {K : PySem.W.Frag} {own : Bool} : Good2 K (rMulA K) (sMulA own) := by
  intro S M H x y a b Qd Q ok rx ry q k
  have rest : sMul own a b M Qd → rMulA K x y H Q := fun q => .inl (good_mul S M H x y a b Qd Q ok rx ry q k)
  cases a <;> try exact rest q
  rename_i xs
  cases b <;> try exact rest q
  rename_i n
  obtain ⟨hne, n0, n1, hl, q⟩ := q
  right
  obtain ⟨l, us, rfl, hT, rl⟩ := rx
  have hlen := rl.length
  refine ⟨l, n, us, rfl, ry, ex_t ok.ex hT, fun e => hne (List.eq_nil_of_length_eq_zero (by rw [← hlen, e]; rfl)), n0, n1, by omega, fun e => ?_, fun e p hp => ?_, fun e p hp => ?_⟩
  · subst e
    have : (List.replicate (1 : Int).toNat xs).flatten = xs := by simp
    rw [this] at q
    exact k _ _ S M H q (Ex.refl _) ok ⟨l, us, rfl, hT, rl⟩
  · have e2 : n.toNat = 0 := by omega
    rw [e2] at q
    exact k.tup ok hp q RepL.nil
  · exact k.tup ok hp q (rl.rep _)
end FL
set_option Elab.async false
set_option linter.all false
set_option maxRecDepth 100000
set_option maxHeartbeats 400000
namespace FL
open PySem PySem.Spec PyProof.Rows L2 Evl
/-! zip of a tuple and a list -/
def ItzTL (K : PySem.W.Frag) (a b : Addr) : It where
  go := fun i H => ∃ (us ws : List V) (p q : V), SqT K H a us ∧ SqL K H b ws ∧ us[i]? = some p ∧ ws[i]? = some q
  yld := fun i H v H' => ∃ N p q, v = .ref N ∧ H N = none ∧ H' = upd H N (.tup [p, q]) ∧ (∀ us, SqT K H a us → us[i]? = some p) ∧ ∀ ws, SqL K H b ws → ws[i]? = some q
  stop := fun i H => ∃ us ws : List V, SqT K H a us ∧ SqL K H b ws ∧ i ≤ us.length ∧ i ≤ ws.length ∧ (i = us.length ∨ i = ws.length)
theorem sepTL {z I O j k a b : Addr} (D : ZipApart z I O j k a b) : ZipSep2 z I O j k [j, a] [k, b] := by
  refine ⟨D.TIz, D.TOz, D.TITO, D.TIi1, by simp, ?_, ?_, D.TIi2, by simp, ?_, ?_, ?_, ?_⟩ <;> (simp only [List.mem_cons, List.not_mem_nil, or_false, not_or]; constructor)
  · exact D.i1z.symm
  · exact D.l1z.symm
  · exact D.TOi1
  · exact D.l1TO.symm
  · exact D.i2z.symm
  · exact D.l2z.symm
  · exact D.TOi2
  · exact D.l2TO.symm
  · exact D.i12
  · exact D.l2i1.symm
  · exact D.i12.symm
  · exact D.l1i2.symm
theorem turn_zipTL {P : Program} {w : World} {K : PySem.W.Frag} {elts : List Expr} {kk : Nat} {tpos : Pos} {a b z I O j k : Addr} (D : ZipApart z I O j k a b) :
    Turn P w K (.Tuple elts kk tpos) (ItzTL K a b) [z, I, O, j, k] z (fun i h => IsZip h z I O .none ∧ IsPair h I (.ref j) (.ref k) ∧ (∃ p q, IsPair h O p q) ∧ h.IsTupleIter j a i ∧ h.IsListIter k b i) where
  mem := by simp
  obj := fun i h ⟨s1, s2, ⟨p, q, s3⟩, ⟨o1, e1, _, d1⟩, ⟨o2, e2, _, d2⟩⟩ c hc => by
    simp only [List.mem_cons, List.not_mem_nil, or_false] at hc
    rcases hc with rfl | rfl | rfl | rfl | rfl
    · exact ⟨_, s1, fun v z => nomatch z⟩
    · exact ⟨_, s2, fun v z => nomatch z⟩
    · exact ⟨_, s3, fun v z => nomatch z⟩
    · exact ⟨o1, e1, fun v z => by rw [d1] at z; cases z⟩
    · exact ⟨o2, e2, fun v z => by rw [d2] at z; cases z⟩
  keep := fun i h h' ⟨s1, s2, ⟨p, q, s3⟩, s4, s5⟩ kp => ⟨kp z (by simp) _ s1, kp I (by simp) _ s2, ⟨p, q, kp O (by simp) _ s3⟩, s4.at fun o e => kp j (by simp) o e, s5.at fun o e => kp k (by simp) o e⟩
  item := by
    intro X hP hw hK hc i pins s σ H E In hf ⟨s1, s2, ⟨p0, q0, s3⟩, s4, s5⟩ ⟨us, ws, p, q, hu, hw2, hp, hq⟩
    subst hP hw hK
    obtain ⟨its, rv, t1, _⟩ := In.tuple hu
    obtain ⟨itl, rl, t2, _⟩ := In.list hw2
    obtain ⟨u, hu2, ru⟩ := rv.get hp
    obtain ⟨v, hv2, rw2⟩ := rl.get hq
    have zl := Heap.lt_size s1
    have hd : X.A.in1.handled = none := In.ok.hd hc
    have n1 : i < its.toArray.size := by have := (List.getElem?_eq_some_iff.mp hu2).1; simpa using this
    have n2 : i < itl.toArray.size := by have := (List.getElem?_eq_some_iff.mp hv2).1; simpa using this
    refine wpAny_pyNext_zipD2_item (sepTL D) (Draws.tuple (A := X.A.in1) hd j a D.l1i1 its.toArray) (Draws.list (A := X.A.in1) hd k b D.l2i2 itl.toArray) s1 s2 s3 ⟨s4, t1⟩ ⟨s5, t2.isList⟩ n1 n2 fun x1 x2 h1 tk y1 y2 z1 o1 d1 d2 nw sz kp => ?_
    obtain rfl : u = x1 := by
      have y1 : its.toArray[i]? = some x1 := y1
      have : its.toArray[i]? = some u := by simpa using hu2
      rw [this] at y1; exact Option.some.inj y1
    obtain rfl : v = x2 := by
      have y2 : itl.toArray[i]? = some x2 := y2
      have : itl.toArray[i]? = some v := by simpa using hv2
      rw [this] at y2; exact Option.some.inj y2
    refine ⟨_, rfl, wpAny_letOwnedTupleGo_zip (s := { s with heap := h1, toks := tk }) z1 fun h2 z2 sb => ?_⟩
    have gT : h2.get? s.heap.objs.size = some { cls := .type "tuple", data := .seq #[u, v] } := (sb.2 _ (Nat.ne_of_gt zl)).trans nw
    have new : ObjOk X.prog X.w (upd H s.heap.objs.size (.tup [p, q])) h2 s.heap.objs.size (.tup [p, q]) := ⟨by show 2 ≤ sizeLine; decide, [u, v], .cons ru (.cons rw2 .nil), ⟨_, gT, rfl, _, rfl⟩⟩
    have kept : ∀ c o, c ∉ [z, I, O, j, k] → s.heap.get? c = some o → h2.get? c = some o := fun c o hn e => by
      simp only [List.mem_cons, List.not_mem_nil, or_false, not_or] at hn
      exact (sb.2 c hn.1).trans (kp c o hn.1 hn.2.2.1 hn.2.2.2.1 hn.2.2.2.2 e)
    have I2 : L2.Inv X pins σ (upd H s.heap.objs.size (.tup [p, q])) { s with heap := h2, toks := tk } := In.turnedNew (ch := [z, I, O, j, k]) kept hf (Nat.le_refl _) new
    refine ⟨.ref s.heap.objs.size, _, I2, rfl, ⟨_, p, q, rfl, In.hok.fresh (Nat.le_refl _), rfl, fun l hl => In.tuple_inj hl hu ▸ hp, fun l hl => In.list_inj hl hw2 ▸ hq⟩, ⟨z2, ?_, ⟨u, v, ?_⟩, ?_, ?_⟩, fun c hm => ?_⟩
    · exact (sb.2 _ D.TIz).trans (kp _ _ D.TIz D.TITO D.TIi1 D.TIi2 s2)
    · exact (sb.2 _ D.TOz).trans o1
    · exact d1.1.at fun o e => (sb.2 _ D.i1z).trans e
    · exact d2.1.at fun o e => (sb.2 _ D.i2z).trans e
    · have lt : c < s.heap.objs.size := by
        simp only [List.mem_cons, List.not_mem_nil, or_false] at hm
        rcases hm with rfl | rfl | rfl | rfl | rfl
        · exact zl
        · exact Heap.lt_size s2
        · exact Heap.lt_size s3
        · obtain ⟨_, e, _⟩ := s4; exact Heap.lt_size e
        · obtain ⟨_, e, _⟩ := s5; exact Heap.lt_size e
      rw [upd_ne (Nat.ne_of_lt lt)]
      exact (hf c hm).1
  done := by
    intro X hP hw hK hc i pins s σ H E In hf ⟨s1, s2, ⟨p0, q0, s3⟩, s4, s5⟩ ⟨us, ws, hu, hw2, le1, le2, hend⟩
    subst hP hw hK
    obtain ⟨its, rv, t1, _⟩ := In.tuple hu
    obtain ⟨itl, rl, t2, _⟩ := In.list hw2
    have l1 := rv.length
    have l2 := rl.length
    have hd : X.A.in1.handled = none := In.ok.hd hc
    refine wpAny_pyNext_zipD2_end (sepTL D) (Draws.tuple (A := X.A.in1) hd j a D.l1i1 its.toArray) (Draws.list (A := X.A.in1) hd k b D.l2i2 itl.toArray) s1 s2 s3 ⟨s4, t1⟩ ⟨s5, t2.isList⟩ (by simp; omega) (by simp; omega) (by simp; omega) fun h1 tk kp => ⟨rfl, In.turnedL (t' := tk) (ch := [z, I, O, j, k]) (fun c o hn e => ?_) hf⟩
    simp only [List.mem_cons, List.not_mem_nil, or_false, not_or] at hn
    exact kp c o hn.1 hn.2.2.1 hn.2.2.2.1 hn.2.2.2.2 e
  self := fun A i s Q E st h => wpAny_pyIter_zip st.1 h
def iZip3 (K : PySem.W.Frag) (ta : TA) : TI := fun σ H R => ta σ H fun vs H1 => ∃ a b us ws, vs = [.ref a, .ref b] ∧ ((SqL K H1 a us ∧ SqL K H1 b ws ∧ R (Itz K a b) H1) ∨ (SqT K H1 a us ∧ SqT K H1 b ws ∧ R (RZ.ItzT K a b) H1) ∨ (SqT K H1 a us ∧ SqL K H1 b ws ∧ R (ItzTL K a b) H1))
theorem pi_zip3 {X : Cx} {e e2 : Expr} {ta : TA} {p pos tpos : Pos} {elts : List Expr} {kk : Nat} (hg : Gl X "zip") (hm : X.mg "zip" = none) (ha : PA X [e, e2] ta) (hs : starEach [e, e2] X.env = (false, eval e X.env) :: starEach [e2] X.env) (hpl : (backTo pos (starEach [e2] X.env)).any (·.1) = false) :
    PI X (.Tuple elts kk tpos) (.Call (.Name "zip" p) [e, e2] [] pos) (iZip3 X.K ta) := by
  refine ⟨fun pins s σ H R In h => ?_⟩
  refine Call_ (ld_blt In hg hm PyProof.Rows.boot_zip (PyProof.Rows.callWith_type1 (thn (ha.run pos pins s σ H _ In h) fun us0 s1 ⟨vs, H1, I1, r1, a, b, us, ws, ex, q⟩ => ?_) hs hpl))
  subst ex
  cases r1 with
  | cons r rr =>
  cases rr with
  | cons r' rr =>
  cases rr
  cases r
  cases r'
  have new : ∀ c, c ∈ [s1.heap.objs.size + 4, s1.heap.objs.size + 2, s1.heap.objs.size + 3, s1.heap.objs.size, s1.heap.objs.size + 1] → FpOk X pins H1 c := fun c hc => by
    have le : s1.heap.objs.size ≤ c := by
      simp only [List.mem_cons, List.not_mem_nil, or_false] at hc
      rcases hc with z | z | z | z | z
      · rw [z]; exact Nat.le_add_right _ _
      · rw [z]; exact Nat.le_add_right _ _
      · rw [z]; exact Nat.le_add_right _ _
      · rw [z]; exact Nat.le_refl _
      · rw [z]; exact Nat.le_add_right _ _
    exact I1.fpOk le (I1.hok.fresh le)
  rcases q with ⟨q1, q2, q⟩ | ⟨q1, q2, q⟩ | ⟨q1, q2, q⟩
  · obtain ⟨its, rv, t1, _⟩ := I1.list q1
    obtain ⟨itl, rl, t2, _⟩ := I1.list q2
    refine zip_begins2 (begins_list a its.toArray) (begins_list b itl.toArray) t1.isList t2.isList fun h' z1 z2 z3 g1 g2 sz kp => wpAny_pyIter_zip z1 ?_
    have I2 : L2.Inv X pins σ H1 { s1 with heap := h' } := I1.kept (t' := s1.toks) kp
    have j1 : h'.IsListIter s1.heap.objs.size a 0 := ⟨_, g1, rfl, rfl⟩
    have j2 : h'.IsListIter (s1.heap.objs.size + 1) b 0 := ⟨_, g2, rfl, rfl⟩
    exact ⟨s1.heap.objs.size + 4, [s1.heap.objs.size + 4, s1.heap.objs.size + 2, s1.heap.objs.size + 3, s1.heap.objs.size, s1.heap.objs.size + 1], _, _, H1, rfl, I2, turn_zip (PySem.W.ktu_apart s1.heap.objs.size a b t1.lt t2.lt), ⟨z1, z2, ⟨_, _, z3⟩, j1, j2⟩, new, q⟩
  · obtain ⟨its, rv, t1, _⟩ := I1.tuple q1
    obtain ⟨itl, rl, t2, _⟩ := I1.tuple q2
    refine zip_begins2 (begins_tuple a its.toArray) (begins_tuple b itl.toArray) t1 t2 fun h' z1 z2 z3 g1 g2 sz kp => wpAny_pyIter_zip z1 ?_
    have I2 : L2.Inv X pins σ H1 { s1 with heap := h' } := I1.kept (t' := s1.toks) kp
    have j1 : h'.IsTupleIter s1.heap.objs.size a 0 := ⟨_, g1, rfl, rfl⟩
    have j2 : h'.IsTupleIter (s1.heap.objs.size + 1) b 0 := ⟨_, g2, rfl, rfl⟩
    exact ⟨s1.heap.objs.size + 4, [s1.heap.objs.size + 4, s1.heap.objs.size + 2, s1.heap.objs.size + 3, s1.heap.objs.size, s1.heap.objs.size + 1], _, _, H1, rfl, I2, RZ.turn_zipT (PySem.W.ktu_apart s1.heap.objs.size a b t1.lt t2.lt), ⟨z1, z2, ⟨_, _, z3⟩, j1, j2⟩, new, q⟩
  · obtain ⟨its, rv, t1, _⟩ := I1.tuple q1
    obtain ⟨itl, rl, t2, _⟩ := I1.list q2
    refine zip_begins2 (begins_tuple a its.toArray) (begins_list b itl.toArray) t1 t2.isList fun h' z1 z2 z3 g1 g2 sz kp => wpAny_pyIter_zip z1 ?_
    have I2 : L2.Inv X pins σ H1 { s1 with heap := h' } := I1.kept (t' := s1.toks) kp
    have j1 : h'.IsTupleIter s1.heap.objs.size a 0 := ⟨_, g1, rfl, rfl⟩
    have j2 : h'.IsListIter (s1.heap.objs.size + 1) b 0 := ⟨_, g2, rfl, rfl⟩
    exact ⟨s1.heap.objs.size + 4, [s1.heap.objs.size + 4, s1.heap.objs.size + 2, s1.heap.objs.size + 3, s1.heap.objs.size, s1.heap.objs.size + 1], _, _, H1, rfl, I2, turn_zipTL (PySem.W.ktu_apart s1.heap.objs.size a b t1.lt t2.lt), ⟨z1, z2, ⟨_, _, z3⟩, j1, j2⟩, new, q⟩
theorem walk_zipTL {K : PySem.W.Frag} {a b : Addr} {us ws : List V} : Walk (ItzTL K a b) (min us.length ws.length) (fun H => SqT K H a us ∧ SqL K H b ws) (YPair (fun i => us[i]?) (fun i => ws[i]?)) := by
  refine ⟨fun i _ hi q => ?_, fun _ q => ⟨us, ws, q.1, q.2, by omega, by omega, by omega⟩, fun i H v H' _ q ⟨N, p, r, h1, h2, h3, h4, h5⟩ => ⟨N, p, r, h1, h2, h3, h4 us q.1, h5 ws q.2⟩⟩
  have i1 : i < us.length := by omega
  have i2 : i < ws.length := by omega
  exact ⟨us, ws, us[i], ws[i], q.1, q.2, by simp [i1], by simp [i2]⟩
section
variable {X : Cx} {E : WK} {a b : Expr} {pos p tpos : Pos} {elts : List Expr} {kk : Nat}
@[simp ↓] def wZipA (w : SA) : SI := fun env M Q X => w env M (fun ds M1 => match ds with
  | [.tup xs, .tup ys] => Q (pairsD xs ys) (fun _ => True) M1
  | [.lst xs, .lst ys] => Q (pairsD xs ys) (fun _ => True) M1
  | [.tup xs, .lst ys] => Q (pairsD xs ys) (fun _ => True) M1
  | _ => False) X
theorem iw_zipA {w : SA} (hg : Gl X "zip") (hm : X.mg "zip" = none) (hs : starred a = false) (hs2 : starred b = false) (h : AW X E [a, b] w) : IW X E (.Tuple elts kk tpos) (.Call (.Name "zip" p) [a, b] [] pos) (wZipA w) :=
  PI.imp (pi_zip3 hg hm h (star_cons hs _) (star_none (es := [b]) _ (by simp [hs2]))) fun σ H R ⟨S, env, M, Qd, Qx, ok, en, q, k, x⟩ => ⟨S, env, M, _, Qx, ok, en, q, fun ds vs S2 M2 H2 q2 e2 ok2 r => by
    match ds, q2, r with
    | [.tup xs, .tup ys], q2, ⟨v1, t1, e, ⟨a1, us, z1, hq, rl⟩, v2, t2, e3, ⟨b1, ws, z2, hq2, rl2⟩, ht⟩ =>
      subst z1 z2
      obtain rfl : t2 = [] := ht
      subst e3
      exact ⟨a1, b1, us, ws, e, .inr (.inl ⟨ex_t ok2.ex hq, ex_t ok2.ex hq2, k _ _ _ S2 M2 H2 q2 e2 ok2 (WalkD.pairs walk_zipT (fun S' M' H e ok' _ => ⟨ex_t (e.trans ok'.ex) hq, ex_t (e.trans ok'.ex) hq2⟩) rl rl2)⟩)⟩
    | [.lst xs, .lst ys], q2, ⟨v1, t1, e, ⟨a1, us, z1, hq, rl⟩, v2, t2, e3, ⟨b1, ws, z2, hq2, rl2⟩, ht⟩ =>
      subst z1 z2
      obtain rfl : t2 = [] := ht
      subst e3
      exact ⟨a1, b1, us, ws, e, .inl ⟨sq_of (ok2.ex _ _ hq), sq_of (ok2.ex _ _ hq2), k _ _ _ S2 M2 H2 q2 e2 ok2 (WalkD.pairs (walk_zip rfl) (fun S' M' H e ok' _ => ⟨sq_of (ok'.ex _ _ (e _ _ hq)), sq_of (ok'.ex _ _ (e _ _ hq2))⟩) rl rl2)⟩⟩
    | [.tup xs, .lst ys], q2, ⟨v1, t1, e, ⟨a1, us, z1, hq, rl⟩, v2, t2, e3, ⟨b1, ws, z2, hq2, rl2⟩, ht⟩ =>
      subst z1 z2
      obtain rfl : t2 = [] := ht
      subst e3
      exact ⟨a1, b1, us, ws, e, .inr (.inr ⟨ex_t ok2.ex hq, sq_of (ok2.ex _ _ hq2), k _ _ _ S2 M2 H2 q2 e2 ok2 (WalkD.pairs walk_zipTL (fun S' M' H e ok' _ => ⟨ex_t (e.trans ok'.ex) hq, sq_of (ok'.ex _ _ (e _ _ hq2))⟩) rl rl2)⟩)⟩, x⟩
end
end FL
set_option Elab.async false
set_option linter.all false
set_option maxRecDepth 100000
set_option maxHeartbeats 4000000
namespace FL
open PySem PySem.Spec PyProof.Rows L2 Evl
/-! a set made of a list of tuples -/
/-- keys that are objects: what the set's table asks of them -/
structure KOb (P : Program) (w : World) (T : Type) [DecidableEq T] where
  At : Heap → T → Addr → Prop
  hv : T → Int
  tk : T → Nat
  eqs : ∀ {A : Around} {E : Value → Shared → Prop} {s : Shared} {x y : T} {a b : Addr} {Q : Bool → Shared → Prop}, A.units < cLine → At s.heap x a → At s.heap y b → Q (decide (x = y)) s → wpAny (model P w) A (eqBool (.ref a) (.ref b)) Q E s
  hashes : ∀ {A : Around} {E : Value → Shared → Prop} {s : Shared} {x : T} {a : Addr} {Q : Int → Shared → Prop}, A.units < cLine → At s.heap x a → Q (hv x) { s with toks := s.toks + tk x } → wpAny (model P w) A (pyHash (.ref a)) Q E s
  calm : ∀ {A : Around} {E : Value → Shared → Prop} {s : Shared} {x : T} {a : Addr} {Q : Bool → Shared → Prop}, At s.heap x a → Q true s → wpAny (model P w) A (eqIsQuiet 8 (.ref a)) Q E s
  nocls : ∀ {A : Around} {E : Value → Shared → Prop} {s : Shared} {x : T} {a : Addr} {Q : Bool → Shared → Prop}, At s.heap x a → Q false s → wpAny (model P w) A (ofAClassStatement 8 (.ref a)) Q E s
  byval : ∀ {A : Around} {E : Value → Shared → Prop} {s : Shared} {x : T} {a : Addr} {Q : Bool → Shared → Prop}, At s.heap x a → (∀ b, Q b s) → wpAny (model P w) A (hashByValue 8 (.ref a)) Q E s
  noset : ∀ {h h' : Heap} {x : T} {a b : Addr} {o : Obj} {es : Array (Int × Value)} {ep : Nat} {t : SetTable}, At h x b → h.get? a = some o → o.data = .set es ep t → Heap.SameBut a h h' → At h' x b
  stay : ∀ {h h' : Heap} {x : T} {b : Addr}, At h x b → (∀ c o, h.get? c = some o → h'.get? c = some o) → At h' x b
section
variable {P : Program} {w : World} {T : Type} [DecidableEq T] (κ : KOb P w T)
def KOb.row (p : Addr × T) : Int × Value := (κ.hv p.2, .ref p.1)
def KOb.hs (L : List (Addr × T)) : List Int := L.map fun p => κ.hv p.2
/-- at a lies a set: its keys L, in the order of its table -/
structure KSet (h : Heap) (a : Addr) (L : List (Addr × T)) (es : Array (Int × Value)) (ep : Nat) (t : SetTable) : Prop where
  lies : ∃ o, h.get? a = some o ∧ o.ExactSet ∧ o.data = .set es ep t
  ents : es.toList = L.map κ.row
  tab : TabOk t (κ.hs L)
  apart : (L.map (·.2)).Nodup
  keys : ∀ p ∈ L, κ.At h p.2 p.1
  space : L.length * 5 < t.mask * 3
/-- the c-th stop of a search -/
abbrev stopN (m : Nat) (h : Int) (c : Nat) : SetTable.Probe := nth m (runAt m (SetTable.bits h % (m + 1)) (SetTable.bits h)) c
theorem nodummy (m : Nat) : ∀ (c : Nat) (p : SetTable.Probe), p.dummy = none → (nth m p c).dummy = none
  | 0, _, e => e
  | c + 1, p, e => nodummy m c (adv m p) (by unfold adv; split <;> exact e)
variable {κ} {A : Around} {E : Value → Shared → Prop} {s : Shared} {a : Addr} {L : List (Addr × T)} {es : Array (Int × Value)} {ep : Nat} {t : SetTable}
theorem ents_size (e : es.toList = L.map κ.row) : es.size = L.length := by
  rw [← Array.length_toList, e, List.length_map]
theorem ents_at (e : es.toList = L.map κ.row) {i : Nat} {p : Addr × T} (h : L[i]? = some p) : es[i]? = some (κ.hv p.2, .ref p.1) := by
  rw [← Array.getElem?_toList, e, List.getElem?_map, h]; rfl
theorem hs_len : (κ.hs L).length = L.length := List.length_map ..
theorem KSet.size (R : KSet κ s.heap a L es ep t) : es.size = L.length := ents_size R.ents
theorem KSet.places (R : KSet κ s.heap a L es ep t) : t.place.size = L.length := R.tab.sz.trans hs_len
theorem KSet.fits (R : KSet κ s.heap a L es ep t) : t.fits es.size = true := by
  have l1 := R.places
  have l2 := R.size
  have l3 := R.space
  have l4 : t.dummies.size = 0 := by rw [R.tab.dm]; rfl
  unfold SetTable.fits SetTable.fill
  simp only [Bool.and_eq_true, beq_iff_eq, decide_eq_true_eq]
  omega
theorem KSet.firm (R : KSet κ s.heap a L es ep t) : t.gaveWay ≠ true := by
  unfold SetTable.gaveWay; rw [mask_odd R.tab.mok]; exact Bool.false_ne_true
/-- a search among such keys is not seen -/
theorem unseen {k : T} {b : Addr} {Q : Bool → Shared → Prop} (hk : κ.At s.heap k b) {ys : List Value} (hy : ∀ y ∈ ys, ∃ k' c, y = Value.ref c ∧ κ.At s.heap k' c) (h : Q false s) : wpAny (model P w) A (searchCouldBeSeen (.ref b) ys) Q E s := by
  unfold searchCouldBeSeen
  refine wpAny_bind (wpAny_forIn_list _ (fun left r s1 => s1 = s ∧ r.1 = none ∧ ∀ y ∈ left, ∃ k' c, y = Value.ref c ∧ κ.At s.heap k' c) _ (fun v left r s1 I => ?_) (fun r s1 I => ?_) _ _ ⟨rfl, rfl, hy⟩)
  · obtain ⟨rfl, e, all⟩ := I
    obtain ⟨k', c, rfl, hc⟩ := all v List.mem_cons_self
    have left' := fun y (hy' : y ∈ left) => all y (List.mem_cons_of_mem _ hy')
    dsimp only
    by_cases same : (b == c || (carriedByValue (.ref b) && carriedByValue (.ref c))) = true
    · exact wp_if_pos same (wpAny_pure ⟨rfl, rfl, left'⟩)
    · refine wp_if_neg same (wpAny_bind (κ.calm hk ?_))
      simp only [Bool.not_true, Bool.false_eq_true, if_false]
      refine wpAny_bind (κ.calm hc ?_)
      simp only [Bool.not_true, Bool.false_eq_true, if_false]
      refine wpAny_bind (κ.nocls hk ?_)
      simp only [Bool.false_eq_true, if_false]
      refine wpAny_bind (κ.nocls hc ?_)
      simp only [Bool.false_eq_true, if_false]
      exact wpAny_pure ⟨rfl, rfl, left'⟩
  · obtain ⟨r1, r2⟩ := r
    obtain ⟨rfl, e, -⟩ := I
    cases e
    exact wpAny_pure h
/-- the search for k, from its c-th stop on -/
theorem ksearch (R : KSet κ s.heap a L es ep t) {x : Addr} {k : T} (hx : κ.At s.heap k x) (hu : A.units < cLine) {Q : SetFound → Shared → Prop} {n : Nat} (nlt : n < 10 * SetTable.turns t.mask)
    (free : way t.mask (κ.hv k) n ∉ t.place.toList) (full : ∀ c, c < n → way t.mask (κ.hv k) c ∈ t.place.toList) (yes : k ∈ L.map (·.2) → Q (.there none) s) (no : k ∉ L.map (·.2) → Q (.free (way t.mask (κ.hv k) n) false) s)
    (fuel : Nat) : ∀ (c : Nat) (stand : Option SetTable.Probe), stand.getD (t.probeStart (κ.hv k)) = stopN t.mask (κ.hv k) c → c ≤ n → n < c + fuel →
      (∀ (i : Nat) (p : Addr × T), L[i]? = some p → p.2 = k → ∃ d, c ≤ d ∧ d < n ∧ t.place.toList[i]? = some (way t.mask (κ.hv k) d)) → wpAny (model P w) A (setSearchFrom a (.ref x) (κ.hv k) true fuel stand) Q E s := by
  obtain ⟨o, ho, -, hd⟩ := R.lies
  induction fuel with
  | zero => intro c _ _ hc hf _; omega
  | succ fuel ih =>
    intro c stand st hc hf ahead
    have shift : ∀ q, nth t.mask (stopN t.mask (κ.hv k) c) q = stopN t.mask (κ.hv k) (c + q) := fun q => (nth_add t.mask c _ q).symm
    have hash0 : ∀ (i : Nat) (p : Addr × T), L[i]? = some p → ((es[i]?).map (·.1)).getD 0 = κ.hv p.2 := fun i p hp => by rw [ents_at R.ents hp]; rfl
    rw [setSearchFrom_succ]
    refine wpAny_bind (wpAny_setState_of ho hd R.fits ?_)
    dsimp only
    refine wp_if_neg R.firm ?_
    try refine wpAny_bind (wpAny_pure ?_)
    have found := go_spec t R.tab.ris R.tab.dm (fun i => ((es[i]?).map (·.1)).getD 0) (κ.hv k) (10 * SetTable.turns t.mask) (n - c) (stopN t.mask (κ.hv k) c) (nodummy _ _ _ rfl) (by omega)
      (fun q hq => by rw [shift]; exact full _ (by omega)) (by rw [shift, Nat.add_sub_cancel' hc]; exact free)
    have probed : t.probe (fun i => ((es[i]?).map (·.1)).getD 0) (κ.hv k) (stand.getD (t.probeStart (κ.hv k))) = SetTable.probe.go t (fun i => ((es[i]?).map (·.1)).getD 0) (κ.hv k) (10 * SetTable.turns t.mask) (stopN t.mask (κ.hv k) c) := by rw [st]; rfl
    rcases found with ⟨q, i, hq, hi, hh, before, e⟩ | ⟨before, e⟩
    · rw [shift] at hi
      rw [probed, e, shift, shift]
      dsimp only
      have il : i < L.length := by
        have l1 := (List.getElem?_eq_some_iff.mp hi).1
        rw [Array.length_toList, R.places] at l1
        exact l1
      obtain ⟨p, hp⟩ : ∃ p, L[i]? = some p := ⟨_, List.getElem?_eq_getElem il⟩
      have pin := List.mem_of_getElem? hp
      have live := slot_live R.tab.ris hi
      have after : wpAny (model P w) A (searchRest a (.ref x) (κ.hv k) true fuel es t (stopN t.mask (κ.hv k) (c + q)).j i (stopN t.mask (κ.hv k) (c + (q + 1)))) Q E s := by
        unfold searchRest
        rw [ents_at R.ents hp]
        dsimp only
        refine wpAny_bind (wpAny_holding (κ.eqs hu (R.keys p pin) hx (wpAny_bind (wpAny_setState_of ho hd R.fits ?_))))
        dsimp only
        by_cases pk : p.2 = k
        · exact wp_if_pos (by rw [decide_eq_true pk]; rfl) (wpAny_pure (yes (List.mem_map.mpr ⟨p, pin, pk⟩)))
        · refine wp_if_neg (by rw [decide_eq_false pk]; exact Bool.false_ne_true) ?_
          try refine wpAny_bind (wpAny_pure ?_)
          rw [sameMem]
          dsimp only
          simp only [if_true, live, ents_at R.ents hp]
          refine wpAny_bind (wpAny_isSame_ref_self (wpAny_bind (wpAny_pure ?_)))
          simp only [if_true]
          refine wp_if_neg (by rw [decide_eq_false pk]; exact Bool.false_ne_true) (ih (c + (q + 1)) _ rfl (by omega) (by omega) fun i2 p2 h2 k2 => ?_)
          obtain ⟨d, d1, d2, d3⟩ := ahead i2 p2 h2 k2
          refine ⟨d, Nat.lt_of_not_le fun le => ?_, d2, d3⟩
          rcases Nat.lt_or_eq_of_le (show d ≤ c + q from le) with lt | eq
          · exact before (d - c) i2 (by omega) (by rw [shift, Nat.add_sub_cancel' d1]; exact d3) ((hash0 i2 p2 h2).trans (congrArg κ.hv k2))
          · have live2 := slot_live R.tab.ris d3
            rw [eq, live] at live2
            cases live2
            rw [hp] at h2
            cases h2
            exact pk k2
      by_cases led : t.led = true
      · refine wp_if_neg (by simp [led]) ?_
        try refine wpAny_bind (wpAny_pure ?_)
        exact after
      · refine wp_if_pos (by simp [led]) (wpAny_bind (unseen hx (fun y hy => ?_) (wp_if_neg Bool.false_ne_true ?_)))
        · obtain ⟨r, hr, rfl⟩ := List.mem_map.mp hy
          have r1 : r ∈ es.toList := by
            have := (by simpa using hr : r ∈ es ∧ r.1 = κ.hv k).1
            simpa using this
          rw [R.ents] at r1
          obtain ⟨p2, m2, rfl⟩ := List.mem_map.mp r1
          exact ⟨p2.2, p2.1, rfl, R.keys p2 m2⟩
        · try refine wpAny_bind (wpAny_pure ?_)
          exact after
    · rw [probed, e, shift, Nat.add_sub_cancel' hc]
      dsimp only
      refine wpAny_pure (no fun hm => ?_)
      obtain ⟨p2, m2, k2⟩ := List.mem_map.mp hm
      obtain ⟨i2, h2⟩ := List.mem_iff_getElem?.mp m2
      obtain ⟨d, d1, d2, d3⟩ := ahead i2 p2 h2 k2
      exact before (d - c) i2 (by omega) (by rw [shift, Nat.add_sub_cancel' d1]; exact d3) ((hash0 i2 p2 h2).trans (congrArg κ.hv k2))
theorem kfind (R : KSet κ s.heap a L es ep t) {x : Addr} {k : T} (hx : κ.At s.heap k x) (hu : A.units < cLine) {Q : SetFound → Shared → Prop} (yes : k ∈ L.map (·.2) → Q (.there none) s)
    (no : ∀ n, k ∉ L.map (·.2) → way t.mask (κ.hv k) n ∉ t.place.toList → (∀ c, c < n → way t.mask (κ.hv k) c ∈ t.place.toList) → Q (.free (way t.mask (κ.hv k) n) false) s) : wpAny (model P w) A (setSearch a (.ref x) (κ.hv k) true) Q E s := by
  have sp := R.space
  obtain ⟨n, nlt, free, full⟩ := R.tab.first (by rw [hs_len]; omega) (κ.hv k)
  have small : 10 * SetTable.turns t.mask ≤ 2000 := by unfold SetTable.turns; rcases R.tab.mok with e | e | e <;> omega
  unfold setSearch
  refine ksearch R hx hu nlt free full yes (fun h => no n h free full) 100000 0 none rfl (Nat.zero_le _) (by omega) fun i p hp pk => ?_
  have l1 : i < t.place.toList.length := by
    rw [Array.length_toList, R.places]; exact (List.getElem?_eq_some_iff.mp hp).1
  have hj := List.getElem?_eq_getElem l1
  obtain ⟨d, d2, d3⟩ := R.tab.before free (i := i) (h := κ.hv k) (by unfold KOb.hs; rw [List.getElem?_map, hp, ← pk]; rfl) hj
  exact ⟨d, Nat.zero_le _, d2, by rw [d3]; exact hj⟩
end
end FL
set_option Elab.async false
set_option linter.all false
set_option maxRecDepth 100000
set_option maxHeartbeats 4000000
namespace FL
open PySem PySem.Spec PyProof.Rows L2 Evl
/-! adding such a key; set(xs) -/
theorem pick_range {α : Type} (l : List α) : ∀ n, (List.range n).filterMap (fun i => l[i]?) = l.take n
  | 0 => rfl
  | n + 1 => by
    rw [List.range_succ, List.filterMap_append, pick_range l n, List.take_succ]
    cases e : l[n]? <;> simp [e]
theorem pick_perm {α : Type} {l : List α} {order : List Nat} (h : order.Perm (List.range l.length)) : (order.filterMap fun i => l[i]?).Perm l := by
  have := h.filterMap fun i => l[i]?
  rwa [pick_range, List.take_length] at this
theorem slip_in {α : Type} (l : List α) (p : Nat) (x : α) : (l.take p ++ x :: l.drop p).Perm (x :: l) := by
  have := List.perm_middle (a := x) (l₁ := l.take p) (l₂ := l.drop p)
  rwa [List.take_append_drop] at this
theorem _root_.L2.TabOk.like {t t2 : SetTable} {hs : List Int} (T : TabOk t hs) (e1 : t2.place = t.place) (e2 : t2.dummies = t.dummies) (e3 : t2.mask = t.mask) : TabOk t2 hs := by
  obtain ⟨a, b, c, d, e, f⟩ := T
  exact ⟨by rw [e1]; exact a, e2.trans b, by rw [e1]; exact c, by rw [e3]; exact d, by rw [e1, e3]; exact e, by rw [e1, e3]; exact f⟩
section
variable {P : Program} {w : World} {T : Type} [DecidableEq T] {κ : KOb P w T} {A : Around} {E : Value → Shared → Prop} {s : Shared} {a : Addr} {L : List (Addr × T)} {es : Array (Int × Value)} {ep : Nat} {t : SetTable}
theorem ents_pick (e : es.toList = L.map κ.row) (order : List Nat) : (order.filterMap fun i => es[i]?) = (order.filterMap fun i => L[i]?).map κ.row := by
  have : (fun i => es[i]?) = fun i => (L[i]?).map κ.row := funext fun i => by rw [← Array.getElem?_toList, e, List.getElem?_map]
  rw [this, List.map_filterMap]
theorem hs_pick (e : es.toList = L.map κ.row) : ∀ {order : List Nat}, (∀ i ∈ order, i < L.length) → (order.map fun i => (es.map (·.1)).getD i 0) = κ.hs (order.filterMap fun i => L[i]?)
  | [], _ => rfl
  | i :: r, h => by
    obtain ⟨p, hp⟩ : ∃ p, L[i]? = some p := ⟨_, List.getElem?_eq_getElem (h i List.mem_cons_self)⟩
    have e1 : (es.map (·.1)).getD i 0 = κ.hv p.2 := by
      have : (es.map (·.1))[i]? = some (κ.hv p.2) := by rw [Array.getElem?_map, ents_at e hp]; rfl
      rw [Array.getD_eq_getD_getElem?, this]; rfl
    rw [List.map_cons, hs_pick e fun j hj => h j (List.mem_cons_of_mem _ hj), e1, List.filterMap_cons, hp]
    rfl
/-- the table laid anew -/
theorem krelay {o : Obj} (ho : s.heap.get? a = some o) (hx : o.ExactSet) (hd : o.data = .set es ep t) (hf : t.fits es.size = true) (he : es.toList = L.map κ.row) (nd : (L.map (·.2)).Nodup) (hk : ∀ p ∈ L, κ.At s.heap p.2 p.1)
    {want M : Nat} (hw : SetTable.sizeAbove want = M + 1) (hM : MaskOk M) (hs : L.length * 5 < M * 3) {Q : Unit → Shared → Prop}
    (q : ∀ h' L' es' ep' t', Heap.SameBut a s.heap h' → KSet κ h' a L' es' ep' t' → L'.Perm L → Q () { s with heap := h' }) : wpAny (model P w) A (setRelay a want) Q E s := by
  have hM2 : M ≤ 127 := by rcases hM with e | e | e <;> omega
  have hz := ents_size he
  obtain ⟨t2, order, e, perm, tab, em, -, -, -⟩ := relaid_ok t (hs := es.map (·.1)) (wanted := want) (M := M) (by omega) hM (by rw [Array.size_map, hz]; omega)
  rw [Array.size_map, hz] at perm
  rw [hs_pick he fun i hi => List.mem_range.mp (perm.mem_iff.mp hi)] at tab
  have perm2 := pick_perm perm
  have ents : (order.filterMap (es[·]?)).toList = (order.toList.filterMap fun i => L[i]?).map κ.row := by
    rw [Array.toList_filterMap]; exact ents_pick he _
  generalize (order.toList.filterMap fun i => L[i]?) = L2 at tab perm2 ents
  have hz2 : (order.filterMap (es[·]?)).size = es.size := by rw [ents_size ents, perm2.length_eq, hz]
  generalize hes2 : order.filterMap (es[·]?) = es2 at ents hz2
  rw [setRelay_eq]
  refine wpAny_bind (wpAny_setState_of ho hd hf ?_)
  dsimp only
  refine wp_if_neg (by rw [hw, sizeLine_eq]; omega) ?_
  try refine wpAny_bind (wpAny_pure ?_)
  rw [e]
  dsimp only
  rw [hes2]
  refine wpAny_bind (wp_if_neg (by rw [hz2]; simp) ?_)
  try refine wpAny_bind (wpAny_pure ?_)
  refine wpAny_pure ?_
  dsimp only
  have same : Heap.SameBut a s.heap (s.heap.update a (Obj.putSet es2 t2)) := Heap.SameBut.update ..
  refine wpAny_storeSet_of ho hd (q _ L2 es2 (ep + 1) t2 same ⟨⟨_, store_at ho hd, ⟨hx.1, hx.2.1, hx.2.2⟩, rfl⟩, ents, tab, (perm2.map (·.2)).nodup_iff.mpr nd, fun p hp => κ.noset (hk p (perm2.mem_iff.mp hp)) ho hd same, ?_⟩ perm2) (by rw [hz2, hz, sizeLine_eq]; omega)
  rw [perm2.length_eq, em]; exact hs
theorem ask_byval {β : Type} {F : Bool → Sem β} {Q : β → Shared → Prop} {b : Bool} {x : Addr} {k : T} (hx : κ.At s.heap k x) (h : ∀ b, wpAny (model P w) A (F b) Q E s) :
    wpAny (model P w) A (if b = true then (hashByValue 8 (.ref x) >>= F) else ((Pure.pure true : Sem Bool) >>= F)) Q E s := by
  cases b
  · exact wp_if_neg Bool.false_ne_true (wpAny_bind (wpAny_pure (h true)))
  · exact wp_if_pos rfl (wpAny_bind (κ.byval hx h))
/-- the key k, where it is not yet -/
theorem kadd (R : KSet κ s.heap a L es ep t) {x : Addr} {k : T} (hx : κ.At s.heap k x) (hu : A.units < cLine) (few : L.length < 63) {Q : Bool → Shared → Prop}
    (q : ∀ b h' L' es' ep' t', Heap.SameBut a s.heap h' → KSet κ h' a L' es' ep' t' → (L' = L ∧ k ∈ L.map (·.2) ∨ L'.Perm ((x, k) :: L)) → Q b { s with heap := h' }) : wpAny (model P w) A (setAddHashed a (.ref x) (κ.hv k)) Q E s := by
  obtain ⟨o, ho, hex, hd⟩ := R.lies
  have hz := R.size
  have sp := R.space
  unfold setAddHashed
  refine wpAny_holding ?_
  rw [show (100000 : Nat) = 99999 + 1 from rfl, setAddHashedIn_succ]
  refine wpAny_bind (wpAny_setState_of ho hd R.fits (wp_if_neg (by simp [byScan, Value.scannable]) ?_))
  try refine wpAny_bind (wpAny_pure ?_)
  refine wpAny_bind (kfind R hx hu (fun hm => ?_) fun n hm free full => ?_)
  · exact wpAny_pure (q false s.heap L es ep t (Heap.SameBut.refl a s.heap) R (.inl ⟨rfl, hm⟩))
  · dsimp only
    refine wpAny_bind (wpAny_setState_of ho hd R.fits ?_)
    dsimp only
    obtain ⟨ep1, hp0, tab0, em0, -, -, -, -, efill0⟩ := R.tab.put free full
    generalize t.put (way t.mask (κ.hv k) n) = pt at ep1 tab0 em0 efill0 ⊢
    obtain ⟨t0, p⟩ := pt
    dsimp only at ep1 tab0 em0 efill0 ⊢
    subst ep1
    generalize SetTable.below t.place (way t.mask (κ.hv k) n) = p at hp0 tab0 ⊢
    have perm := slip_in L p (x, k)
    have ents : (SetTable.insertAt es p (κ.hv k, Value.ref x)).toList = (L.take p ++ (x, k) :: L.drop p).map κ.row := by
      rw [SetTable.toList_insertAt, R.ents, List.map_append, List.map_cons, List.map_take, List.map_drop]; rfl
    have tab2 : TabOk t0 (κ.hs (L.take p ++ (x, k) :: L.drop p)) := by
      have : κ.hs (L.take p ++ (x, k) :: L.drop p) = (κ.hs L).take p ++ κ.hv k :: (κ.hs L).drop p := by
        unfold KOb.hs; rw [List.map_append, List.map_cons, List.map_take, List.map_drop]
      rw [this]; exact tab0
    generalize (L.take p ++ (x, k) :: L.drop p) = L1 at perm ents tab2
    have len1 : L1.length = L.length + 1 := perm.length_eq
    have nd1 : (L1.map (·.2)).Nodup := (perm.map (·.2)).nodup_iff.mpr (List.nodup_cons.mpr ⟨hm, R.apart⟩)
    generalize SetTable.insertAt es p (κ.hv k, Value.ref x) = es1 at ents ⊢
    have hz1 := ents_size ents
    refine ask_byval hx fun byV => ?_
    obtain ⟨t1, e1⟩ : ∃ t1, t1 = (if byV = true then t0 else { t0 with plain := false }) := ⟨_, rfl⟩
    have like : t1.place = t0.place ∧ t1.dummies = t0.dummies ∧ t1.mask = t0.mask := by
      subst e1; cases byV <;> exact ⟨rfl, rfl, rfl⟩
    have tab1 : TabOk t1 (κ.hs L1) := tab2.like like.1 like.2.1 like.2.2
    have em := like.2.2.trans em0
    have efill : t1.fill = (κ.hs L).length + 1 := by
      rw [← efill0]; unfold SetTable.fill; rw [like.1, like.2.1]
    rw [← e1]
    clear e1 like
    refine wpAny_bind (wpAny_storeSet_of ho hd ?_ (by rw [hz1, len1, sizeLine_eq]; omega))
    have same : Heap.SameBut a s.heap (s.heap.update a (Obj.putSet es1 t1)) := Heap.SameBut.update ..
    have ho1 := store_at (es' := es1) (t' := t1) ho hd
    generalize s.heap.update a (Obj.putSet es1 t1) = h1 at same ho1 ⊢
    have keys1 : ∀ p ∈ L1, κ.At h1 p.2 p.1 := fun p hp => (List.mem_cons.mp (perm.mem_iff.mp hp)).elim (fun e => by rw [e]; exact κ.noset hx ho hd same) fun m => κ.noset (R.keys p m) ho hd same
    have full1 : t1.tooFull = decide ((L.length + 1) * 5 ≥ t.mask * 3) := by
      unfold SetTable.tooFull; rw [efill, em, hs_len]
    by_cases hf : (L.length + 1) * 5 ≥ t.mask * 3
    · have hf1 : t1.tooFull = true := by rw [full1]; exact decide_eq_true hf
      have fits1 : t1.fits es1.size = true := by
        have l1 := tab1.sz
        rw [hs_len] at l1
        have l4 : t1.dummies.size = 0 := by rw [tab1.dm]; rfl
        unfold SetTable.fits SetTable.fill
        simp only [Bool.and_eq_true, beq_iff_eq, decide_eq_true_eq]
        rw [em]; omega
      have grow : ∀ M, SetTable.sizeAbove (SetTable.grown (es.size + 1)) = M + 1 → MaskOk M → L1.length * 5 < M * 3 → wpAny (model P w) A (setRelay a (SetTable.grown (es.size + 1))) (fun _ s1 => wpAny (model P w) A (Pure.pure true : Sem Bool) Q E s1) E { s with heap := h1 } := fun M hw hM hs =>
        krelay (s := { s with heap := h1 }) ho1 ⟨hex.1, hex.2.1, hex.2.2⟩ rfl fits1 ents nd1 keys1 hw hM hs fun h2 L2 es2 ep2 t2 same2 R2 perm2 => wpAny_pure (q true h2 L2 es2 ep2 t2 (same.trans same2) R2 (.inr (perm2.trans perm)))
      have grown : wpAny (model P w) A (setRelay a (SetTable.grown (es.size + 1))) (fun _ s1 => wpAny (model P w) A (Pure.pure true : Sem Bool) Q E s1) E { s with heap := h1 } := by
        rcases R.tab.mok with e | e | e
        · have : es.size = 4 := by omega
          exact grow 31 (by rw [this, size_20]) (.inr (.inl rfl)) (by omega)
        · have : es.size = 18 := by omega
          exact grow 127 (by rw [this, size_76]) (.inr (.inr rfl)) (by omega)
        · omega
      first
        | exact wp_if_pos (by rw [hf1]; rfl) (wpAny_bind grown)
        | exact wpAny_bind (wp_if_pos (by rw [hf1]; rfl) grown)
    · have hf1 : t1.tooFull = false := by rw [full1]; exact decide_eq_false hf
      have done : wpAny (model P w) A (Pure.pure true : Sem Bool) Q E { s with heap := h1 } :=
        wpAny_pure (q true h1 L1 es1 (ep + 1) t1 same ⟨⟨_, ho1, ⟨hex.1, hex.2.1, hex.2.2⟩, rfl⟩, ents, tab1, nd1, keys1, by rw [len1, em]; omega⟩ (.inr perm))
      first
        | exact wp_if_neg (by rw [hf1]; exact Bool.false_ne_true) done
        | exact wpAny_bind (wp_if_neg (by rw [hf1]; exact Bool.false_ne_true) (wpAny_pure done))
end
end FL
set_option Elab.async false
set_option linter.all false
set_option maxRecDepth 100000
set_option maxHeartbeats 4000000
namespace FL
open PySem PySem.Spec PyProof.Rows L2 Evl
def addT {T : Type} [DecidableEq T] (l : List T) (k : T) : List T := if k ∈ l then l else l ++ [k]
def dedT {T : Type} [DecidableEq T] (ks : List T) : List T := ks.foldl addT []
theorem dedT_snoc {T : Type} [DecidableEq T] (ks : List T) (k : T) : dedT (ks ++ [k]) = addT (dedT ks) k := by
  unfold dedT; rw [List.foldl_append]; rfl
theorem dedT_le {T : Type} [DecidableEq T] (ks : List T) : (dedT ks).length ≤ ks.length := by
  have go : ∀ (ks l : List T), (ks.foldl addT l).length ≤ l.length + ks.length := by
    intro ks
    induction ks with
    | nil => intro l; exact Nat.le_refl _
    | cons k r ih =>
      intro l
      have h1 := ih (addT l k)
      have h2 : (addT l k).length ≤ l.length + 1 := by
        unfold addT; split <;> simp
      rw [List.foldl_cons, List.length_cons]; omega
  have := go ks []
  rwa [List.length_nil, Nat.zero_add] at this
/-- what the set has of the first i of the keys -/
structure KGot {T : Type} [DecidableEq T] (ks : List (Addr × T)) (i : Nat) (L : List (Addr × T)) : Prop where
  sub : ∀ p ∈ L, p ∈ ks
  perm : (L.map (·.2)).Perm (dedT ((ks.take i).map (·.2)))
section
variable {P : Program} {w : World} {T : Type} [DecidableEq T] {κ : KOb P w T} {A : Around} {E : Value → Shared → Prop} {s : Shared}
theorem KGot.le {ks L : List (Addr × T)} {i : Nat} (g : KGot ks i L) : L.length ≤ i := by
  have h1 := g.perm.length_eq
  have h2 := dedT_le ((ks.take i).map (·.2))
  rw [List.length_map] at h1 h2
  rw [List.length_take] at h2
  omega
theorem KGot.next {ks L L' : List (Addr × T)} {i : Nat} {p : Addr × T} (g : KGot ks i L) (hp : ks[i]? = some p) (h : L' = L ∧ p.2 ∈ L.map (·.2) ∨ L'.Perm (p :: L) ∧ p.2 ∉ L.map (·.2)) : KGot ks (i + 1) L' := by
  have e : (ks.take (i + 1)).map (·.2) = (ks.take i).map (·.2) ++ [p.2] := by
    rw [List.take_succ, hp, List.map_append]; rfl
  rcases h with ⟨rfl, hm⟩ | ⟨hp2, hm⟩
  · refine ⟨g.sub, ?_⟩
    rw [e, dedT_snoc]
    unfold addT
    rw [if_pos (g.perm.mem_iff.mp hm)]
    exact g.perm
  · refine ⟨fun r hr => ?_, ?_⟩
    · rcases List.mem_cons.mp (hp2.mem_iff.mp hr) with rfl | hr
      · exact List.mem_of_getElem? hp
      · exact g.sub r hr
    · rw [e, dedT_snoc]
      unfold addT
      rw [if_neg fun z => hm (g.perm.mem_iff.mpr z)]
      exact ((hp2.map fun x : Addr × T => x.2) : (L'.map (·.2)).Perm (p.2 :: L.map (·.2))).trans ((g.perm.cons p.2).trans (List.perm_append_singleton _ _).symm)
theorem KSet.stay {h h' : Heap} {a : Addr} {L : List (Addr × T)} {es : Array (Int × Value)} {ep : Nat} {t : SetTable} (R : KSet κ h a L es ep t) (ha : ∀ o, h.get? a = some o → h'.get? a = some o) (hk : ∀ p ∈ L, κ.At h' p.2 p.1) : KSet κ h' a L es ep t :=
  let ⟨o, ho, r⟩ := R.lies
  ⟨⟨o, ha o ho, r⟩, R.ents, R.tab, R.apart, hk, R.space⟩
theorem kset_new {h : Heap} {a : Addr} {led : Bool} (ho : h.get? a = some { cls := .type "set", dict := none, data := .set #[] 0 (.fresh 0 0 led) }) : KSet κ h a [] #[] 0 (.fresh 0 0 led) where
  lies := ⟨_, ho, ⟨rfl, rfl, rfl⟩, rfl⟩
  ents := rfl
  tab := ⟨List.Pairwise.nil, rfl, rfl, .inl rfl, fun _ z => (nomatch z), fun _ _ _ z => (nomatch z)⟩
  apart := List.nodup_nil
  keys := fun _ z => nomatch z
  space := by show 0 < 21; decide
theorem set_loopO {I : Addr} {fp wr : List Addr} {G : Array GenState → Array GenState → Prop} {n : Nat} {Pv : Nat → Value → Prop} {St : Nat → Shared → Prop} {R : Result → Shared → Prop}
    (W : WalksS P w A.in1 I fp wr G n Pv St) (S : Addr) (hSf : S ∉ fp) (ks : List (Addr × T)) (hn : n = ks.length) (few : ks.length < 63) (hval : ∀ i v, Pv i v → ∃ p, ks[i]? = some p ∧ v = .ref p.1)
    (h0 : Heap) (hk : ∀ p ∈ ks, κ.At h0 p.2 p.1) (hS0 : h0.get? S = none) (hw0 : ∀ b ∈ wr, h0.get? b = none) (hu : A.in1.units < cLine) :
    ∀ (k i : Nat) (s : Shared), n - i = k → i ≤ n → St i s → (∀ b o, h0.get? b = some o → s.heap.get? b = some o) → (∃ L es ep t, KSet κ s.heap S L es ep t ∧ KGot ks i L) →
      (∀ s' L es ep t, Moved (S :: wr) G s s' → KSet κ s'.heap S L es ep t → KGot ks n L → R (.ok (.ret .none)) s') → codeAny (model P w) A (.builtin "set.update.loop" ⟨[.ref S, .ref I], []⟩) R s := by
  have hSw : S ∉ wr := fun z => hSf (W.sub _ z)
  have wider : ∀ b ∈ wr, b ∈ S :: wr := fun b hb => List.mem_cons_of_mem _ hb
  have old : ∀ {s1 s2 : Shared}, Moved wr G s1 s2 → (∀ b o, h0.get? b = some o → s1.heap.get? b = some o) → ∀ b o, h0.get? b = some o → s2.heap.get? b = some o := fun m h b o e =>
    m.heap b o (fun z => by rw [hw0 b z] at e; cases e) (h b o e)
  intro k
  induction k with
  | zero =>
    intro i s z hi hst hold ⟨L, es, ep, t, hS, g⟩ q
    obtain rfl : i = n := by omega
    refine codeAny_builtin F.entry_set_update_loop ?_
    rw [Around.under_plainId F.plain_set_update_loop _]
    show wpAny _ A.in1 (pyNext (.ref I) >>= _) _ _ s
    refine wpAny_bind (W.done s _ _ hst fun s' m => ?_)
    show wpAny _ A.in1 (ret Value.none) _ _ s'
    exact wpAny_pure (q s' L es ep t (m.mono wider) (hS.stay (fun o e => m.heap S o hSw e) fun p hp => κ.stay (hk p (g.sub p hp)) (old m hold)) g)
  | succ k ih =>
    intro i s z hi hst hold ⟨L, es, ep, t, hS, g⟩ q
    have lt : i < n := by omega
    refine codeAny_builtin F.entry_set_update_loop ?_
    rw [Around.under_plainId F.plain_set_update_loop _]
    show wpAny _ A.in1 (pyNext (.ref I) >>= _) _ _ s
    refine wpAny_bind (W.item i s _ _ lt hst fun v s' hP hst' m => ?_)
    obtain ⟨p, hp, rfl⟩ := hval i v hP
    have hold' := old m hold
    have hS' : KSet κ s'.heap S L es ep t := hS.stay (fun o e => m.heap S o hSw e) fun p hp => κ.stay (hk p (g.sub p hp)) hold'
    have hx : κ.At s'.heap p.2 p.1 := κ.stay (hk p (List.mem_of_getElem? hp)) hold'
    show wpAny _ A.in1 (holding [Value.ref p.1] (setAdd S (.ref p.1)) >>= _) _ _ s'
    refine wpAny_bind (wpAny_holding ?_)
    unfold setAdd
    refine wpAny_holding (wpAny_bind (κ.hashes hu hx ?_))
    by_cases hm : p.2 ∈ L.map (·.2)
    all_goals
      refine kadd (s := { s' with toks := s'.toks + κ.tk p.2 }) hS' hx hu (by have := g.le; omega) fun b h2 L2 es2 ep2 t2 same R2 hL => ?_
      have g2 : KGot ks (i + 1) L2 := g.next hp (by
        first
          | exact hL.elim (fun e => .inl e) fun e => absurd ((e.map (·.2)).nodup_iff.mp R2.apart) (fun z => (List.nodup_cons.mp z).1 hm)
          | exact hL.elim (fun e => absurd e.2 hm) fun e => .inr ⟨e, hm⟩)
      refine wpAny_pure ⟨plainId_quiet F.plain_set_update_loop _, ih (i + 1) _ (by omega) lt (W.frame _ s' _ _ hst' (Nat.le_add_right _ _) fun b hb o e => ?_) (fun b o e => (same.2 b fun z => by rw [z, hS0] at e; cases e).trans (hold' b o e)) ⟨L2, es2, ep2, t2, R2, g2⟩ fun s2 L3 es3 ep3 t3 m2 R3 g3 => ?_⟩
      · exact (same.2 b fun z => hSf (z ▸ hb)).trans e
      · exact q s2 L3 es3 ep3 t3 (Moved.trans W.gtrans ((m.mono wider).then_heap (Nat.le_add_right _ _) fun b o hb e => (same.2 b fun z => hb (z ▸ List.mem_cons_self)).trans e) m2) R3 g3
theorem call_setO {l : Addr} {items : Array Value} (ks : List (Addr × T)) {Q : Value → Shared → Prop} (hh : A.handled = none) (hl : s.heap.IsList l items) (hit : items.toList = ks.map fun p => Value.ref p.1)
    (hk : ∀ p ∈ ks, κ.At s.heap p.2 p.1) (few : ks.length < 63) (hu : A.units + 3 < cLine)
    (h : ∀ (h' : Heap) (tk : Nat) L es ep t, KSet κ h' s.heap.objs.size L es ep t → KGot ks ks.length L → (∀ b o, b < s.heap.objs.size → s.heap.get? b = some o → h'.get? b = some o) → Q (.ref s.heap.objs.size) { s with heap := h', toks := tk }) :
    wpAny (model P w) A (call (.type "set") [.ref l]) Q E s := by
  have isz : items.size = ks.length := by rw [← Array.length_toList, hit, List.length_map]
  obtain ⟨c, tl, hmro⟩ := F.called_set.mro
  have hmade := F.called_set.made
  have hsub := F.called_set.sub
  refine wpAny_call (codeAny_of_tree ?_)
  show wpAny _ _ (callAny (.type "set") _) _ _ _
  refine wpAny_pure ⟨Code.quiet_builtin _ (by decide +kernel), codeAny_builtin F.entry_type_call ?_⟩
  rw [Around.under_plain (weight_type_call_type "set" [.ref l] []) rfl]
  have h1 := F.called_set.notType
  have h2 := F.called_set.canCreate
  have hct := F.typeCall_set_1 (.ref l)
  repeat (any_goals (first | assumption | wp_step))
  refine codeAny_mono (code_set_new_1 (.ref l) (E := E) (Q₁ := fun obj s₁ => ∃ led : Bool, obj = .ref s.heap.objs.size ∧ s₁ = { s with heap := s.heap.push { cls := .type "set", dict := none, data := .set #[] 0 (.fresh 0 0 led) } }) fun led => ⟨led, rfl, rfl⟩) fun r s₁ hr => ?_
  cases r with
  | error e => exact hr
  | ok fl =>
    cases fl with
    | ret obj =>
      obtain ⟨led, rfl, rfl⟩ := hr
      have hS : (s.heap.push { cls := .type "set", dict := none, data := .set #[] 0 (.fresh 0 0 led) }).get? s.heap.objs.size = some { cls := .type "set", dict := none, data := .set #[] 0 (.fresh 0 0 led) } := Heap.get?_push_size _ rfl
      have hT : Shared.TypeIs { s with heap := s.heap.push { cls := .type "set", dict := none, data := .set #[] 0 (.fresh 0 0 led) } } (.ref s.heap.objs.size) "set" := ⟨_, hS, rfl⟩
      have hli := F.called_set.init.lookup
      have hbi := F.called_set.init.bind (.ref s.heap.objs.size)
      repeat (any_goals (first | assumption | wp_step))
      refine codeAny_mono (codeAny_call_builtin (R := wants (fun r s₂ => r = .none ∧ ∃ h' tk L es ep t, s₂ = { s with heap := h', toks := tk } ∧ KSet κ h' s.heap.objs.size L es ep t ∧ KGot ks ks.length L ∧
          (∀ b o, b < s.heap.objs.size → s.heap.get? b = some o → h'.get? b = some o)) E) F.called_set.init.plain F.entry_set_init (check_set_init_1 hT ?_)) fun r₂ s₂ hr₂ => ?_
      · obtain ⟨ol, hol, hcl, nl, hdl⟩ := hl
        obtain ⟨ocls, odict, odata, oslots⟩ := ol
        simp only at hcl hdl
        subst hcl; subst hdl
        have hol' : (s.heap.push { cls := .type "set", dict := none, data := .set #[] 0 (.fresh 0 0 led) }).get? l = some { cls := .type "list", dict := odict, data := .seq items nl, slots := oslots } := Heap.get?_push_of_some _ hol
        have hsls := F.sub_list_set
        have hslf := F.sub_list_frozenset
        have hne : (Value.type "list" == Value.type "dict") = false := by decide
        have hl1 : (s.heap.push { cls := .type "set", dict := none, data := .set #[] 0 (.fresh 0 0 led) }).IsList l items := ⟨_, hol', rfl, nl, rfl⟩
        unfold Builtin.«set.__init__» noKeywords Builtin.Frozenset.updateFrom
        generalize hPI : pyIter = PI
        wp_walk
        subst hPI
        refine wpAny_pyIter_list hl1 (wpAny_bind (wpAny_runValue ?_))
        have hlS : l < s.heap.objs.size := Heap.lt_size hol
        have hh3 : A.in1.in1.in1.handled = none := by simp [hh]
        have hneI : l ≠ (s.heap.push { cls := .type "set", dict := none, data := .set #[] 0 (.fresh 0 0 led) }).objs.size := by
          rw [Heap.size_push]; exact Nat.ne_of_lt (Nat.lt_succ_of_lt hlS)
        have hSf : s.heap.objs.size ∉ [(s.heap.push { cls := .type "set", dict := none, data := .set #[] 0 (.fresh 0 0 led) }).objs.size, l] := by
          rw [Heap.size_push]; simp only [List.mem_cons, List.mem_singleton, List.not_mem_nil, or_false, not_or]
          exact ⟨Nat.ne_of_lt (Nat.lt_succ_self _), Nat.ne_of_gt hlS⟩
        have beyond : ∀ b, s.heap.objs.size ≤ b → s.heap.get? b = none := fun b hb => by
          cases e : s.heap.get? b with
          | none => rfl
          | some o => exact absurd (Heap.lt_size e) (Nat.not_lt.mpr hb)
        refine set_loopO ((Walks.list hh3 _ l hneI items).toS) s.heap.objs.size hSf ks isz few (fun i v hv => ?_) s.heap hk (beyond _ (Nat.le_refl _)) (fun b hb => beyond b (by rw [List.mem_singleton.mp hb, Heap.size_push]; exact Nat.le_succ _)) hu
          (items.size - 0) 0 _ (by omega) (Nat.zero_le _) ⟨⟨_, Heap.get?_push_size _ rfl, rfl, rfl⟩, (hl1.push _)⟩ (fun b o e => Heap.get?_push_of_some _ (Heap.get?_push_of_some _ e)) ?hS0 ?hR
        · have e : items.toList[i]? = some v := by rw [Array.getElem?_toList]; exact hv
          rw [hit, List.getElem?_map] at e
          obtain ⟨p, hp, rfl⟩ := Option.map_eq_some_iff.mp e
          exact ⟨p, hp, rfl⟩
        case hS0 =>
          exact ⟨[], #[], 0, _, kset_new (led := led) (Heap.get?_push_of_some _ hS), ⟨fun _ z => (nomatch z), List.Perm.nil⟩⟩
        case hR =>
          intro s' L es ep t hm hS' g
          obtain ⟨h', g', d', tk', os'⟩ := s'
          obtain rfl : g' = s.gens := hm.gens
          obtain rfl : d' = s.drawn := hm.drawn
          obtain rfl : os' = s.os := hm.os
          rw [isz] at g
          show wpAny _ _ _ _ _ _
          refine wpAny_pure ?_
          show wpAny _ _ (ret Value.none) _ _ _
          refine wpAny_pure ⟨rfl, h', tk', L, es, ep, t, rfl, hS', g, fun b o hb e => ?_⟩
          have hb1 : b ≠ s.heap.objs.size := Nat.ne_of_lt hb
          have hb2 : b ≠ (s.heap.push { cls := .type "set", dict := none, data := .set #[] 0 (.fresh 0 0 led) }).objs.size := by
            rw [Heap.size_push]; exact Nat.ne_of_lt (Nat.lt_succ_of_lt hb)
          exact hm.heap b o (by simp only [List.mem_cons, List.mem_singleton, List.not_mem_nil, or_false, not_or]; exact ⟨hb1, hb2⟩) (Heap.get?_push_of_some _ (Heap.get?_push_of_some _ e))
      · cases r₂ with
        | error e => exact hr₂
        | ok fl₂ =>
          cases fl₂ with
          | ret r =>
            obtain ⟨rfl, h', tk, L, es, ep, t, rfl, hS', g, hk'⟩ := hr₂
            repeat (any_goals (first | assumption | wp_step))
            exact h _ _ _ _ _ _ hS' g hk'
          | _ => exact hr₂.elim
    | _ => exact hr.elim
end
/-! ### the keys: tuples of numbers and texts -/
section
variable {P : Program} {w : World} {A : Around} {E : Value → Shared → Prop} {s : Shared}
theorem cells_flat {k : List Key} {vs : List Value} (h : ItemsAre (mixKind P w) k vs) : ∀ v ∈ vs, ∀ n, ofAClassStatement n v = Pure.pure false ∧ ∃ b, hashByValue n v = Pure.pure b := by
  induction h with
  | nil => exact fun _ z => nomatch z
  | cons h1 _ ih =>
    intro v hv
    rcases List.mem_cons.mp hv with rfl | hv
    · intro n
      rcases keyIs_shape h1 with ⟨i, t, _, rfl⟩ | ⟨x, t, _, rfl⟩ <;> cases n <;> exact ⟨rfl, _, rfl⟩
    · exact ih v hv
theorem cls_none {k : List Key} {b : Addr} {Q : Bool → Shared → Prop} (hk : IsTupleKey (mixKind P w) s.heap k b) (q : Q false s) : wpAny (model P w) A (ofAClassStatement 8 (.ref b)) Q E s := by
  have ty := hk.typeIs
  obtain ⟨o, its, n, e1, _, e2, e3⟩ := hk
  have flat := cells_flat e3
  unfold ofAClassStatement
  refine wpAny_bind (wpAny_typeOf ty ?_)
  dsimp only
  simp only [show (("tuple" : String) == "tuple") = true from by decide, if_true, Bool.not_true, Bool.false_eq_true, if_false]
  show wpAny _ _ (seqItems? (.ref b) >>= _) _ _ s
  refine wpAny_bind (wpAny_seqItems e1 e2 ?_)
  dsimp only
  refine wpAny_bind ?_
  show wpAny _ _ (forIn its _ _) _ _ s
  rw [← Array.forIn_toList]
  refine wpAny_forIn_list _ (fun left r s1 => s1 = s ∧ r.1 = none ∧ ∀ v ∈ left, v ∈ its.toList) _ (fun v left r s1 I => ?_) (fun r s1 I => ?_) _ _ ⟨rfl, rfl, fun _ z => z⟩
  · obtain ⟨rfl, e, all⟩ := I
    rw [(flat v (all v List.mem_cons_self) _).1]
    refine wpAny_bind (wpAny_pure ?_)
    simp only [Bool.false_eq_true, if_false]
    exact wpAny_pure ⟨rfl, rfl, fun u hu => all u (List.mem_cons_of_mem _ hu)⟩
  · obtain ⟨r1, r2⟩ := r
    obtain ⟨rfl, e, -⟩ := I
    cases e
    exact wpAny_pure q
theorem byv_any {k : List Key} {b : Addr} {Q : Bool → Shared → Prop} (hk : IsTupleKey (mixKind P w) s.heap k b) (q : ∀ b, Q b s) : wpAny (model P w) A (hashByValue 8 (.ref b)) Q E s := by
  have ty := hk.typeIs
  obtain ⟨o, its, n, e1, _, e2, e3⟩ := hk
  have flat := cells_flat e3
  unfold hashByValue
  refine wpAny_bind (wpAny_specialOf ty F.slot_tuple_hash.lookup ?_)
  show wpAny _ _ (seqItems? (.ref b) >>= _) _ _ s
  refine wpAny_bind (wpAny_seqItems e1 e2 (wpAny_bind ?_))
  show wpAny _ _ (forIn its _ _) _ _ s
  rw [← Array.forIn_toList]
  refine wpAny_forIn_list _ (fun left r s1 => s1 = s ∧ r.1 = none ∧ ∀ v ∈ left, v ∈ its.toList) _ (fun v left r s1 I => ?_) (fun r s1 I => ?_) _ _ ⟨rfl, rfl, fun _ z => z⟩
  · obtain ⟨rfl, e, all⟩ := I
    obtain ⟨b2, eb⟩ := (flat v (all v List.mem_cons_self) 7).2
    refine wpAny_bind ?_
    rw [eb]
    refine wpAny_pure ?_
    cases b2
    · exact wp_if_pos rfl (wpAny_pure (wpAny_pure (q false)))
    · exact wp_if_neg Bool.false_ne_true (wpAny_pure ⟨rfl, rfl, fun u hu => all u (List.mem_cons_of_mem _ hu)⟩)
  · obtain ⟨r1, r2⟩ := r
    obtain ⟨rfl, e, -⟩ := I
    cases e
    exact wpAny_pure (q true)
def tupK (P : Program) (w : World) : KOb P w (List Key) where
  At := fun h k a => IsTupleKey (mixKind P w) h k a
  hv := tupleKeyHash (mixKind P w)
  tk := fun k => k.length + 1
  eqs := fun hu hx hy q => wpAny_eqBool_tuple hu hx hy q
  hashes := fun hu hx q => wpAny_pyHash_tuple hu hx q
  calm := fun hx q => wpAny_eqIsQuiet_tuple hx q
  nocls := fun hx q => cls_none hx q
  byval := fun hx q => byv_any hx q
  noset := fun ⟨o, its, n, e1, r⟩ ho hd same => ⟨o, its, n, (same.2 _ fun z => by subst z; rw [e1] at ho; cases ho; rw [r.2.1] at hd; cases hd).trans e1, r⟩
  stay := fun ⟨o, its, n, e1, r⟩ k => ⟨o, its, n, k _ _ e1, r⟩
end
end FL
set_option Elab.async false
set_option linter.all false
set_option maxRecDepth 100000
set_option maxHeartbeats 4000000
namespace FL
open PySem PySem.W PySem.Calls PySem.Spec PyProof.Rows L2 Evl
/-! list(zip(xs, ys)) of two lists -/
theorem zip_len0 : typeLookup (.type "zip") "__len__" = Pure.pure none := by rw [typeLookup_type, builtinLookup_eq_fast]; kernel_rfl
theorem zip_hint0 : typeLookup (.type "zip") "__length_hint__" = Pure.pure none := by rw [typeLookup_type, builtinLookup_eq_fast]; kernel_rfl
/-- the zip z of the lists l1, l2 behind i turns, no part of it at S -/
structure ZTurn (h : Heap) (z TI TO i1 i2 l1 l2 S : Addr) (xs ys : Array Value) (i : Nat) : Prop where
  both : IsPair h TI (.ref i1) (.ref i2)
  it1 : h.IsListIter i1 l1 i
  it2 : h.IsListIter i2 l2 i
  li1 : h.IsList l1 xs
  li2 : h.IsList l2 ys
  own : (IsZip h z TI TO .none ∧ ∃ a b, IsPair h TO a b) ∨ ∃ T f oT, IsZipHeld h z TI TO T f ∧ h.get? T = some oT ∧ T ≠ z ∧ T ≠ i1 ∧ T ≠ i2 ∧ T ≠ S
section
variable {P : Program} {w : World} {A : Around} {E : Value → Shared → Prop} {s : Shared} {z TI TO i1 i2 l1 l2 S : Addr} {xs ys : Array Value} {i : Nat}
theorem ZTurn.ty (Z : ZTurn s.heap z TI TO i1 i2 l1 l2 S xs ys i) : s.TypeIs (.ref z) "zip" := by
  rcases Z.own with ⟨h, _⟩ | ⟨_, _, _, h, _⟩
  · exact ⟨_, h, rfl⟩
  · exact ⟨_, h, rfl⟩
theorem ZTurn.keep {h h' : Heap} (Z : ZTurn h z TI TO i1 i2 l1 l2 S xs ys i) (ne : S ≠ z ∧ S ≠ TI ∧ S ≠ TO ∧ S ≠ i1 ∧ S ≠ i2 ∧ S ≠ l1 ∧ S ≠ l2) (k : ∀ b o, b ≠ S → h.get? b = some o → h'.get? b = some o) : ZTurn h' z TI TO i1 i2 l1 l2 S xs ys i := by
  obtain ⟨n0, n1, n2, n3, n4, n5, n6⟩ := ne
  refine ⟨k _ _ (Ne.symm n1) Z.both, Z.it1.at fun o e => k _ o (Ne.symm n3) e, Z.it2.at fun o e => k _ o (Ne.symm n4) e, Z.li1.at fun o e => k _ o (Ne.symm n5) e, Z.li2.at fun o e => k _ o (Ne.symm n6) e, ?_⟩
  rcases Z.own with ⟨h1, a, b, h2⟩ | ⟨T, f, oT, h1, h2, t1, t2, t3, t4⟩
  · exact .inl ⟨k _ _ (Ne.symm n0) h1, a, b, k _ _ (Ne.symm n2) h2⟩
  · exact .inr ⟨T, f, oT, k _ _ (Ne.symm n0) h1, k _ _ t4 h2, t1, t2, t3, t4⟩
theorem ZTurn.next (D : ZipApart z TI TO i1 i2 l1 l2) (Z : ZTurn s.heap z TI TO i1 i2 l1 l2 S xs ys i) (hS : S < s.heap.objs.size) {x y : Value} (hx : xs[i]? = some x) (hy : ys[i]? = some y) {Q : Option Value → Shared → Prop}
    (q : ∀ h', ZTurn h' z TI TO i1 i2 l1 l2 S xs ys (i + 1) → IsPair h' s.heap.objs.size x y → h'.objs.size = s.heap.objs.size + 1 → (∀ c o, c ≠ z → c ≠ TO → c ≠ i1 → c ≠ i2 → s.heap.get? c = some o → h'.get? c = some o) → Q (some (.ref s.heap.objs.size)) { s with heap := h' }) :
    wpAny (model P w) A (pyNext (.ref z)) Q E s := by
  have li := Z.it1
  have below : ∀ b o, s.heap.get? b = some o → b < s.heap.objs.size := fun b o e => Heap.lt_size e
  have zlt : z < s.heap.objs.size := let ⟨o, e, _⟩ := Z.ty; below _ _ e
  have i1lt : i1 < s.heap.objs.size := let ⟨o, e, _⟩ := Z.it1; below _ _ e
  have i2lt : i2 < s.heap.objs.size := let ⟨o, e, _⟩ := Z.it2; below _ _ e
  have go : ∀ h', (∀ c o, c ≠ z → c ≠ TO → c ≠ i1 → c ≠ i2 → s.heap.get? c = some o → h'.get? c = some o) → h'.IsListIter i1 l1 (i + 1) → h'.IsListIter i2 l2 (i + 1) → (∃ T f oT, IsZipHeld h' z TI TO T f ∧ h'.get? T = some oT ∧ T ≠ z ∧ T ≠ i1 ∧ T ≠ i2 ∧ T ≠ S) → ZTurn h' z TI TO i1 i2 l1 l2 S xs ys (i + 1) :=
    fun h' k j1 j2 o => ⟨k _ _ D.TIz D.TITO D.TIi1 D.TIi2 Z.both, j1, j2, Z.li1.at fun o e => k _ o D.l1z D.l1TO D.l1i1 D.l1i2 e, Z.li2.at fun o e => k _ o D.l2z D.l2TO D.l2i1 D.l2i2 e, .inr o⟩
  rcases Z.own with ⟨h1, a, b, h2⟩ | ⟨T, f, oT, h1, h2, t1, t2, t3, t4⟩
  · exact wpAny_pyNext_zip_item D h1 Z.both h2 Z.it1 Z.it2 Z.li1 Z.li2 hx hy fun h' z' _ j1 j2 p sz k => q h' (go h' k j1 j2 ⟨_, false, _, z', p, Nat.ne_of_gt zlt, Nat.ne_of_gt i1lt, Nat.ne_of_gt i2lt, Nat.ne_of_gt hS⟩) p sz k
  · exact wpAny_pyNext_zip_item_held D h1 h2 Z.both Z.it1 Z.it2 Z.li1 Z.li2 hx hy fun h' z' j1 j2 p sz k => q h' (go h' (fun c o c1 _ c3 c4 e => k c o c1 c3 c4 e) j1 j2 ⟨T, true, oT, z', k _ _ t1 t2 t3 h2, t1, t2, t3, t4⟩) p sz (fun c o c1 _ c3 c4 e => k c o c1 c3 c4 e)
theorem ZTurn.stop (D : ZipApart z TI TO i1 i2 l1 l2) (hh : A.handled = none) (Z : ZTurn s.heap z TI TO i1 i2 l1 l2 S xs ys i) (he : xs[i]? = none ∨ ys[i]? = none) {Q : Option Value → Shared → Prop}
    (q : ∀ h', (∀ c o, c ≠ z → c ≠ TO → c ≠ i1 → c ≠ i2 → s.heap.get? c = some o → h'.get? c = some o) → Q none { s with heap := h' }) : wpAny (model P w) A (pyNext (.ref z)) Q E s := by
  rcases Z.own with ⟨h1, a, b, h2⟩ | ⟨T, f, oT, h1, h2, _⟩
  · exact wpAny_pyNext_zip_end hh D h1 Z.both h2 Z.it1 Z.it2 Z.li1 Z.li2 he q
  · exact wpAny_pyNext_zip_end_held hh D h1 h2 Z.both Z.it1 Z.it2 Z.li1 Z.li2 he fun h' k => q h' fun c o c1 _ c3 c4 e => k c o c1 c3 c4 e
/-- the objects ps are the pairs of the first values, above all that was -/
def ZPairs (h0 h : Heap) (xs ys : Array Value) (ps : List Addr) : Prop := ∀ (j : Nat) (p : Addr), ps[j]? = some p → h0.get? p = none ∧ ∃ x y, xs[j]? = some x ∧ ys[j]? = some y ∧ IsPair h p x y
variable {R : Result → Shared → Prop} {res : Value}
theorem zip_drain (D : ZipApart z TI TO i1 i2 l1 l2) (hh : A.in1.handled = none) (ne : S ≠ z ∧ S ≠ TI ∧ S ≠ TO ∧ S ≠ i1 ∧ S ≠ i2 ∧ S ≠ l1 ∧ S ≠ l2) (h0 : Heap) (new : h0.get? z = none ∧ h0.get? TO = none ∧ h0.get? i1 = none ∧ h0.get? i2 = none ∧ h0.get? S = none)
    {n : Nat} (hnx : n ≤ xs.size) (hny : n ≤ ys.size) (hne : xs.size = n ∨ ys.size = n) (hn : n < sizeLine) :
    ∀ (k i : Nat) (s : Shared) (ps : List Addr) (c : Nat), n - i = k → i ≤ n → ZTurn s.heap z TI TO i1 i2 l1 l2 S xs ys i → s.heap.get? S = some (lstObj (ps.map Value.ref).toArray c) → ps.length = i → ZPairs h0 s.heap xs ys ps → h0.objs.size ≤ s.heap.objs.size → TO < s.heap.objs.size →
      (∀ b o, h0.get? b = some o → s.heap.get? b = some o) → (∀ p ∈ ps, p ≠ z ∧ p ≠ TO ∧ p ≠ i1 ∧ p ≠ i2 ∧ p ≠ S) →
      (∀ h' ps c, h'.get? S = some (lstObj (ps.map Value.ref).toArray c) → ps.length = n → ZPairs h0 h' xs ys ps → (∀ b o, h0.get? b = some o → h'.get? b = some o) → R (.ok (.ret res)) { s with heap := h' }) →
      codeAny (model P w) A (.builtin "list.extend.loop" ⟨[.ref S, .ref z, res], []⟩) R s := by
  intro k
  induction k with
  | zero =>
    intro i s ps c hk hi Z hS hl hp hsz hTO old apart q
    obtain rfl : i = n := by omega
    refine codeAny_builtin F.entry_extend_loop ?_
    rw [Around.under_plainId F.plain_extend_loop _]
    show wpAny _ A.in1 (pyNext (.ref z) >>= _) _ _ s
    refine wpAny_bind (Z.stop D hh (hne.elim (fun e => .inl (Array.getElem?_eq_none (by omega))) fun e => .inr (Array.getElem?_eq_none (by omega))) fun h' kp => ?_)
    refine wpAny_pure (q h' ps c (kp _ _ ne.1 ne.2.2.1 ne.2.2.2.1 ne.2.2.2.2.1 hS) hl (fun j p hj => ?_) fun b o e => ?_)
    · obtain ⟨p0, x, y, e1, e2, e3⟩ := hp j p hj
      obtain ⟨a1, a2, a3, a4, _⟩ := apart p (List.mem_of_getElem? hj)
      exact ⟨p0, x, y, e1, e2, kp _ _ a1 a2 a3 a4 e3⟩
    · have nn : ∀ c, h0.get? c = none → b ≠ c := fun c hc z => by rw [z, hc] at e; cases e
      exact kp _ _ (nn _ new.1) (nn _ new.2.1) (nn _ new.2.2.1) (nn _ new.2.2.2.1) (old b o e)
  | succ k ih =>
    intro i s ps c hk hi Z hS hl hp hsz hTO old apart q
    have lt : i < n := by omega
    refine codeAny_builtin F.entry_extend_loop ?_
    rw [Around.under_plainId F.plain_extend_loop _]
    show wpAny _ A.in1 (pyNext (.ref z) >>= _) _ _ s
    obtain ⟨x, hx⟩ : ∃ x, xs[i]? = some x := ⟨_, Array.getElem?_eq_getElem (by omega)⟩
    obtain ⟨y, hy⟩ : ∃ y, ys[i]? = some y := ⟨_, Array.getElem?_eq_getElem (by omega)⟩
    refine wpAny_bind (Z.next D (Heap.lt_size hS) hx hy fun h' Z' pr hz kp => ?_)
    have hS' : h'.get? S = some (lstObj (ps.map Value.ref).toArray c) := kp _ _ ne.1 ne.2.2.1 ne.2.2.2.1 ne.2.2.2.2.1 hS
    show wpAny _ A.in1 (updateSeq S (·.push (.ref s.heap.objs.size)) >>= _) _ _ _
    refine wpAny_bind (wpAny_updateSeq hS' rfl (wpAny_pure ⟨plainId_quiet F.plain_extend_loop _, ?_⟩) (by simp; omega) (by simp; omega))
    have up : ∀ b o, b ≠ S → h'.get? b = some o → (h'.update S (Obj.mapSeq (·.push (.ref s.heap.objs.size)))).get? b = some o := fun b o hb e => (Heap.get?_update_other _ _ (Ne.symm hb)).trans e
    have Sup := Heap.get?_update_self (Obj.mapSeq (·.push (Value.ref s.heap.objs.size))) hS' rfl
    have hz2 : (h'.update S (Obj.mapSeq (·.push (.ref s.heap.objs.size)))).objs.size = s.heap.objs.size + 1 := by rw [Heap.size_update, hz]
    generalize h'.update S (Obj.mapSeq (·.push (Value.ref s.heap.objs.size))) = h2 at up Sup hz2 ⊢
    have lts : ∀ c o, s.heap.get? c = some o → s.heap.objs.size ≠ c := fun c o e z => Nat.lt_irrefl _ (z ▸ Heap.lt_size e)
    have new' : s.heap.objs.size ≠ z ∧ s.heap.objs.size ≠ i1 ∧ s.heap.objs.size ≠ i2 := by
      refine ⟨let ⟨o, e, _⟩ := Z.ty; lts _ _ e, let ⟨o, e, _⟩ := Z.it1; lts _ _ e, let ⟨o, e, _⟩ := Z.it2; lts _ _ e⟩
    have newS := lts _ _ hS
    refine ih (i + 1) { s with heap := h2 } (ps ++ [s.heap.objs.size]) (c + 1) (by omega) lt (Z'.keep ne up) (by rw [Sup]; simp [Obj.mapSeq, lstObj]) (by simp [hl]) (fun j p hj => ?_) (by show _ ≤ h2.objs.size; omega) (by show TO < h2.objs.size; rw [hz2]; exact Nat.lt_succ_of_lt hTO) (fun b o e => ?_) (fun p hp' => ?_) fun h3 ps3 c3 => q h3 ps3 c3
    · rcases Nat.lt_or_ge j ps.length with hj2 | hj2
      · rw [List.getElem?_append_left hj2] at hj
        obtain ⟨p0, x, y, e1, e2, e3⟩ := hp j p hj
        obtain ⟨a1, a2, a3, a4, a5⟩ := apart p (List.mem_of_getElem? hj)
        exact ⟨p0, x, y, e1, e2, up _ _ a5 (kp _ _ a1 a2 a3 a4 e3)⟩
      · rw [List.getElem?_append_right hj2] at hj
        have ej : j = ps.length := by
          have := (List.getElem?_eq_some_iff.mp hj).1
          simp at this; omega
        subst ej
        simp at hj
        subst hj
        refine ⟨?_, x, y, by rw [hl]; exact hx, by rw [hl]; exact hy, up _ _ newS pr⟩
        cases e : h0.get? s.heap.objs.size with
        | none => rfl
        | some o => exact absurd (Heap.lt_size e) (Nat.not_lt.mpr hsz)
    · have nn : ∀ c, h0.get? c = none → b ≠ c := fun c hc z => by rw [z, hc] at e; cases e
      exact up _ _ (nn _ new.2.2.2.2) (kp _ _ (nn _ new.1) (nn _ new.2.1) (nn _ new.2.2.1) (nn _ new.2.2.2.1) (old b o e))
    · rcases List.mem_append.mp hp' with hp' | hp'
      · exact apart p hp'
      · obtain rfl := List.mem_singleton.mp hp'
        exact ⟨new'.1, Nat.ne_of_gt hTO, new'.2.1, new'.2.2, newS⟩
end
end FL
set_option Elab.async false
set_option linter.all false
set_option maxRecDepth 100000
set_option maxHeartbeats 4000000
namespace FL
open PySem PySem.W PySem.Calls PySem.Spec PyProof.Rows L2 Evl
section
variable {P : Program} {w : World} {A : Around} {E : Value → Shared → Prop} {s : Shared} {z TI TO i1 i2 l1 l2 : Addr} {xs ys : Array Value}
theorem call_list_zip (D : ZipApart z TI TO i1 i2 l1 l2) (hh : A.handled = none) (hz : IsZip s.heap z TI TO .none) (Z : ∀ S, s.heap.objs.size ≤ S → ZTurn s.heap z TI TO i1 i2 l1 l2 S xs ys 0) (hTO : TO < s.heap.objs.size) (hTI : TI < s.heap.objs.size) (h0 : Heap)
    (new : h0.get? z = none ∧ h0.get? TO = none ∧ h0.get? i1 = none ∧ h0.get? i2 = none) (hsz : h0.objs.size ≤ s.heap.objs.size) (old : ∀ b o, h0.get? b = some o → s.heap.get? b = some o)
    {n : Nat} (hnx : n ≤ xs.size) (hny : n ≤ ys.size) (hne : xs.size = n ∨ ys.size = n) (hn : n < sizeLine) {Q : Value → Shared → Prop}
    (q : ∀ h' ps c, h'.get? s.heap.objs.size = some (lstObj (ps.map Value.ref).toArray c) → ps.length = n → ZPairs h0 h' xs ys ps → (∀ b o, h0.get? b = some o → h'.get? b = some o) → Q (.ref s.heap.objs.size) { s with heap := h' }) :
    wpAny (model P w) A (call (.type "list") [.ref z]) Q E s := by
  have zlt : z < s.heap.objs.size := Heap.lt_size hz
  have Sz : s.heap.objs.size ≠ z := Nat.ne_of_gt zlt
  have lts : ∀ c o, s.heap.get? c = some o → s.heap.objs.size ≠ c := fun c o e => Nat.ne_of_gt (Heap.lt_size e)
  have Z0 := Z _ (Nat.le_refl _)
  have ne : s.heap.objs.size ≠ z ∧ s.heap.objs.size ≠ TI ∧ s.heap.objs.size ≠ TO ∧ s.heap.objs.size ≠ i1 ∧ s.heap.objs.size ≠ i2 ∧ s.heap.objs.size ≠ l1 ∧ s.heap.objs.size ≠ l2 :=
    ⟨Sz, Nat.ne_of_gt hTI, Nat.ne_of_gt hTO, let ⟨_, e, _⟩ := Z0.it1; lts _ _ e, let ⟨_, e, _⟩ := Z0.it2; lts _ _ e, let ⟨_, e, _⟩ := Z0.li1; lts _ _ e, let ⟨_, e, _⟩ := Z0.li2; lts _ _ e⟩
  have newS : h0.get? s.heap.objs.size = none := by
    cases e : h0.get? s.heap.objs.size with
    | none => rfl
    | some o => exact absurd (Heap.lt_size e) (Nat.not_lt.mpr hsz)
  refine callType_codes (Q₁ := fun obj s₁ => obj = .ref s.heap.objs.size ∧ s₁ = { s with heap := s.heap.push { cls := .type "list", data := .seq #[] } }) F.called_list (F.typeCall_list_1 _) F.entry_list_init (code_list_new _ ⟨rfl, rfl⟩) fun obj s₁ h₁ => ?_
  obtain ⟨rfl, rfl⟩ := h₁
  have hS : (s.heap.push { cls := .type "list", data := .seq #[] }).get? s.heap.objs.size = some { cls := .type "list", data := .seq #[] } := Heap.get?_push_size _ rfl
  refine ⟨⟨_, hS, rfl⟩, F.args_list_init_2 _ _, ?_⟩
  show wpAny _ A.in1.in1 (do let old ← Builtin.List.listItems (.ref s.heap.objs.size); Builtin.List.listUpdate (.ref s.heap.objs.size) (fun _ => #[]); letGo old.toList.reverse; Builtin.List.listExtendWith (.ref s.heap.objs.size) (.ref z) .none) _ _ _
  refine wpAny_bind ?_
  unfold Builtin.List.listItems
  refine wpAny_bind (wpAny_seqItems hS rfl (wpAny_pure ?_))
  show wpAny _ A.in1.in1 (updateSeq s.heap.objs.size (fun _ => #[]) >>= fun _ => letGo (#[] : Array Value).toList.reverse >>= fun _ => Builtin.List.listExtendWith (.ref s.heap.objs.size) (.ref z) .none) _ _ _
  refine wpAny_bind (wpAny_updateSeq hS rfl (wpAny_bind (wpAny_letGo ?_)))
  have hS2 := Heap.get?_update_self (Obj.mapSeq (fun _ => (#[] : Array Value))) hS rfl
  have k2 : ∀ b o, b ≠ s.heap.objs.size → s.heap.get? b = some o → ((s.heap.push { cls := .type "list", data := .seq #[] }).update s.heap.objs.size (Obj.mapSeq (fun _ => (#[] : Array Value)))).get? b = some o := fun b o hb e =>
    (Heap.get?_update_other _ _ (Ne.symm hb)).trans (Heap.get?_push_of_some _ e)
  have z2 : ((s.heap.push { cls := .type "list", data := .seq #[] }).update s.heap.objs.size (Obj.mapSeq (fun _ => (#[] : Array Value)))).objs.size = s.heap.objs.size + 1 := by rw [Heap.size_update, Heap.size_push]
  generalize (s.heap.push { cls := .type "list", data := .seq #[] }).update s.heap.objs.size (Obj.mapSeq (fun _ => (#[] : Array Value))) = h2 at hS2 k2 z2 ⊢
  unfold Builtin.List.listExtendWith
  have hz2 : IsZip h2 z TI TO .none := k2 _ _ (Ne.symm Sz) hz
  have ty2 : Shared.TypeIs { s with heap := h2 } (.ref z) "zip" := ⟨_, hz2, rfl⟩
  refine wpAny_bind (wpAny_typeOf ty2 ?_)
  have e1 : Builtin.List.listSameRef (.ref s.heap.objs.size) (.ref z) = false := by simp [Builtin.List.listSameRef, Sz]
  simp only [e1, show (Value.type "zip" == Value.type "list") = false from by decide, show (Value.type "zip" == Value.type "tuple") = false from by decide, Bool.or_false, Bool.false_eq_true, if_false]
  refine wpAny_bind (wpAny_pyIter_zip (s := { s with heap := h2 }) hz2 (wpAny_bind (wpAny_holding ?_)))
  unfold Builtin.List.listLengthHint
  refine wpAny_bind (wpAny_specialOf ty2 zip_len0 ?_)
  show wpAny _ A.in1.in1 (specialOf (Value.ref z) (Str.ofString "__length_hint__") >>= _) _ _ _
  refine wpAny_bind (wpAny_specialOf ty2 zip_hint0 (wpAny_pure ?_))
  show wpAny _ A.in1.in1 (rule "list.extend.makes-room" >>= fun _ => Builtin.List.listTouch (.ref s.heap.objs.size) >>= fun _ =>
    again (.builtin "list.extend.loop" ⟨[.ref s.heap.objs.size, .ref z, .none], []⟩)) _ _ _
  refine wpAny_bind (wpAny_rule (wpAny_bind ?_))
  show wpAny _ A.in1.in1 (updateSeq s.heap.objs.size (·.push .none) >>= fun _ => updateSeq s.heap.objs.size (·.pop)) _ _ _
  refine wpAny_bind (wpAny_updateSeq hS2 rfl ?_)
  have hS3 := Heap.get?_update_self (Obj.mapSeq (·.push Value.none)) hS2 rfl
  refine wpAny_updateSeq (hz := by seq_fits) hS3 rfl ?_
  have hS4 := Heap.get?_update_self (Obj.mapSeq (·.pop)) hS3 rfl
  have k4 : ∀ b o, b ≠ s.heap.objs.size → s.heap.get? b = some o → ((h2.update s.heap.objs.size (Obj.mapSeq (·.push Value.none))).update s.heap.objs.size (Obj.mapSeq (·.pop))).get? b = some o := fun b o hb e =>
    (Heap.get?_update_other _ _ (Ne.symm hb)).trans ((Heap.get?_update_other _ _ (Ne.symm hb)).trans (k2 b o hb e))
  have z4 : ((h2.update s.heap.objs.size (Obj.mapSeq (·.push Value.none))).update s.heap.objs.size (Obj.mapSeq (·.pop))).objs.size = s.heap.objs.size + 1 := by rw [Heap.size_update, Heap.size_update, z2]
  generalize (h2.update s.heap.objs.size (Obj.mapSeq (·.push Value.none))).update s.heap.objs.size (Obj.mapSeq (·.pop)) = h4 at hS4 k4 z4 ⊢
  refine wpAny_pure ⟨plainId_quiet F.plain_extend_loop _, ?_⟩
  refine zip_drain (s := { s with heap := h4 }) (A := A.in1) D (by simp [hh]) ne h0 ⟨new.1, new.2.1, new.2.2.1, new.2.2.2, newS⟩ hnx hny hne hn n 0 [] _ rfl (Nat.zero_le _) (Z0.keep ne k4) hS4 rfl (fun j p e => by simp at e) (by show _ ≤ h4.objs.size; omega) (by show TO < h4.objs.size; rw [z4]; exact Nat.lt_succ_of_lt hTO)
    (fun b o e => k4 b o (fun z => by rw [z, newS] at e; cases e) (old b o e)) (fun p hp => by simp at hp) fun h5 ps c5 hS5 l5 p5 o5 => ?_
  exact ⟨rfl, q h5 ps c5 hS5 l5 p5 o5⟩
end
end FL
set_option Elab.async false
set_option linter.all false
set_option maxRecDepth 100000
set_option maxHeartbeats 4000000
namespace FL
open PySem PySem.W PySem.Calls PySem.Spec PyProof.Rows L2 Evl
/-- len(set(list(zip(xs, ys)))) -/
@[simp ↓] def wLenSetZ (w : SA) : SE := fun env M Q X => w env M (fun ds M1 => match ds with
  | [.lst xs, .lst ys] => ∃ ks ls : List Key, xs.map keyOf = ks.map some ∧ ys.map keyOf = ls.map some ∧ ks.length < 63 ∧ ls.length < 63 ∧ Q (.int ((dedT (List.zipWith (fun a b => [a, b]) ks ls)).length : Nat)) M1
  | _ => False) X
theorem key_val {K : PySem.W.Frag} {S : Hp} {ds : List D} {xs : List V} {its : List Value} {ks : List Key} (r : RepL K S ds xs) (q : Vals xs its) (h : ds.map keyOf = ks.map some) : its.length = ks.length ∧ ∀ (i : Nat) (v : Value), its[i]? = some v → ∃ k, ks[i]? = some k ∧ keyIs k v = true := by
  have l1 := r.length
  have l2 := q.length
  have l3 : ds.length = ks.length := by have := congrArg List.length h; simpa using this
  refine ⟨by omega, fun i v hv => ?_⟩
  have hi : i < its.length := (List.getElem?_eq_some_iff.mp hv).1
  obtain ⟨d, hd⟩ : ∃ d, ds[i]? = some d := ⟨ds[i]'(by omega), by simp⟩
  obtain ⟨x, hx, rx⟩ := r.get hd
  obtain ⟨u, hu, ru⟩ := q.get hx
  rw [hv] at hu; cases hu
  have e : (ds.map keyOf)[i]? = (ks.map some)[i]? := by rw [h]
  rw [List.getElem?_map, List.getElem?_map, hd, List.getElem?_eq_getElem (show i < ks.length by omega)] at e
  exact ⟨_, List.getElem?_eq_getElem (by omega), rep_keyIs (Option.some.inj e) rx ru⟩
section
variable {X : Cx} {E : WK} {a b : Expr} {w : SA} {p p2 p3 p4 q2 q3 q4 pos : Pos}
theorem ew_lenSetZ (hc : X.calm = true) (hu : X.A.units + 64 < cLine) (hg : Gl X "len") (hm : X.mg "len" = none) (hg2 : Gl X "set") (hm2 : X.mg "set" = none) (hg3 : Gl X "list") (hm3 : X.mg "list" = none) (hg4 : Gl X "zip") (hm4 : X.mg "zip" = none)
    (hs : starred a = false) (hs2 : starred b = false) (ha : AW X E [a, b] w) :
    EW X E (.Call (.Name "len" p) [.Call (.Name "set" p2) [.Call (.Name "list" p3) [.Call (.Name "zip" p4) [a, b] [] q4] [] q3] [] q2] [] pos) (wLenSetZ w) := by
  refine ⟨fun pins s σ H Q I ⟨S, env, M, Qd, Qx, ok, en, q, k, x⟩ => ?_⟩
  refine Call_ (ld_blt I hg hm boot_len ?_)
  refine PyProof.Rows.callWith_builtin1 (PyProof.Rows.args_cons ?_ rfl) rfl rfl
  refine Call_ (ld_blt I hg2 hm2 boot_set ?_)
  refine PyProof.Rows.callWith_type1 (PyProof.Rows.args_cons ?_ rfl) rfl rfl
  refine Call_ (ld_blt (u := .type "list") I hg3 hm3 (by decide +kernel) ?_)
  refine PyProof.Rows.callWith_type1 (PyProof.Rows.args_cons ?_ rfl) rfl rfl
  refine Call_ (ld_blt I hg4 hm4 PyProof.Rows.boot_zip (PyProof.Rows.callWith_type1 (thn (ha.run q4 pins s σ H (fun vs H1 => ∃ S1 M1 xs ys ks ls, Ex S S1 ∧ Ok X.K S1 M1 H1 ∧ (∃ l1 l2 us ws, vs = [.ref l1, .ref l2] ∧ SqL X.K H1 l1 us ∧ SqL X.K H1 l2 ws ∧ RepL X.K S1 xs us ∧ RepL X.K S1 ys ws) ∧
    xs.map keyOf = ks.map some ∧ ys.map keyOf = ls.map some ∧ ks.length < 63 ∧ ls.length < 63 ∧ Qd (.int ((dedT (List.zipWith (fun a b => [a, b]) ks ls)).length : Nat)) M1) I ⟨S, env, M, _, Qx, ok, en, q, fun ds vs S1 M1 H1 q1 e1 ok1 r1 => ?_, x⟩)
    fun us s1 ⟨vs, H1, I1, r1, S1, M1, xs, ys, ks, ls, e1, ok1, ⟨l1, l2, us1, ws1, ev, hq1, hq2, rl1, rl2⟩, hk1, hk2, hl1, hl2, q1⟩ => ?_) (star_cons hs _) (star_none (es := [b]) _ (by simp [hs2]))))
  · match ds, q1, r1 with
    | [.lst xs, .lst ys], ⟨ks, ls, h1, h2, h3, h4, q1⟩, ⟨v1, t1, e, ⟨a1, us, z1, hq, rl⟩, v2, t2, e3, ⟨b1, ws, z2, hq2, rl2⟩, ht⟩ =>
      subst z1 z2
      obtain rfl : t2 = [] := ht
      subst e3
      exact ⟨S1, M1, xs, ys, ks, ls, e1, ok1, ⟨a1, b1, us, ws, e, .inl (.inl (ok1.ex _ _ hq)), .inl (.inl (ok1.ex _ _ hq2)), rl, rl2⟩, h1, h2, h3, h4, q1⟩
  · subst ev
    cases r1 with
    | cons r rr =>
    cases rr with
    | cons r' rr =>
    cases rr
    cases r
    cases r'
    obtain ⟨its, rv, pl1, _⟩ := I1.list hq1
    obtain ⟨its2, rv2, pl2, _⟩ := I1.list hq2
    obtain ⟨len1, val1⟩ := key_val rl1 rv hk1
    obtain ⟨len2, val2⟩ := key_val rl2 rv2 hk2
    have la : l1 < s1.heap.objs.size := pl1.lt
    have lb : l2 < s1.heap.objs.size := pl2.lt
    refine call_zip_2 pl1.isList pl2.isList fun h' hz hTI hTO h1 h2 hsz hk => PyProof.Rows.args_nil ?_
    have none0 : ∀ c, s1.heap.objs.size ≤ c → s1.heap.get? c = none := fun c hc2 => by
      cases e : s1.heap.get? c with
      | none => rfl
      | some o => exact absurd (Heap.lt_size e) (Nat.not_lt.mpr hc2)
    have D := PySem.W.ktu_apart s1.heap.objs.size l1 l2 la lb
    refine call_list_zip (s := { s1 with heap := h' }) (n := min its.length its2.length) D (I1.ok.hd hc) hz (fun S hS => ⟨hTI, h1, h2, pl1.isList.at fun o e => hk _ o e, pl2.isList.at fun o e => hk _ o e, .inl ⟨hz, _, _, hTO⟩⟩)
      (by show _ < h'.objs.size; rw [hsz]; exact Nat.add_lt_add_left (by decide) _) (by show _ < h'.objs.size; rw [hsz]; exact Nat.add_lt_add_left (by decide) _) s1.heap ⟨none0 _ (Nat.le_add_right _ _), none0 _ (Nat.le_add_right _ _), none0 _ (Nat.le_refl _), none0 _ (Nat.le_add_right _ _)⟩
      (by show _ ≤ h'.objs.size; rw [hsz]; exact Nat.le_add_right _ _) hk (by simp; omega) (by simp; omega) (by simp; omega) (by rw [sizeLine_eq]; omega) fun h2 ps c2 hL hpl hzp old2 => PyProof.Rows.args_nil ?_
    have hkl : (List.zipWith (fun a b => [a, b]) ks ls).length = ps.length := by rw [List.length_zipWith, hpl, len1, len2]
    have fsts : (ps.zip (List.zipWith (fun a b => [a, b]) ks ls)).map (fun p => p.1) = ps := List.map_fst_zip (by omega)
    have snds : (ps.zip (List.zipWith (fun a b => [a, b]) ks ls)).map (fun p => p.2) = List.zipWith (fun a b => [a, b]) ks ls := List.map_snd_zip (by omega)
    have zlen : (ps.zip (List.zipWith (fun a b => [a, b]) ks ls)).length = ps.length := by rw [List.length_zip, hkl, Nat.min_self]
    refine call_setO (κ := tupK X.prog X.w) (s := { s1 with heap := h2 }) (ps.zip (List.zipWith (fun a b => [a, b]) ks ls)) (I1.ok.hd hc) ⟨_, hL, rfl, _, rfl⟩ ?_ (fun pk hpk => ?_) (by rw [zlen, hpl]; omega) (by omega) fun h3 tk L es ep t hS g old3 => PyProof.Rows.args_nil ?_
    · show (ps.map Value.ref).toArray.toList = _
      rw [show (fun p : Addr × List Key => Value.ref p.1) = Value.ref ∘ (fun p => p.1) from rfl, ← List.map_map, fsts]
    · obtain ⟨j, hj⟩ := List.mem_iff_getElem?.mp hpk
      obtain ⟨hj1, hj2⟩ := List.getElem?_zip_eq_some.mp hj
      obtain ⟨_, x, y, ex, ey, pr⟩ := hzp j pk.1 hj1
      obtain ⟨k1, hk1', ik1⟩ := val1 j x (by simpa using ex)
      obtain ⟨k2, hk2', ik2⟩ := val2 j y (by simpa using ey)
      rw [List.getElem?_zipWith, hk1', hk2'] at hj2
      have ek : [k1, k2] = pk.2 := Option.some.inj hj2
      show IsTupleKey (mixKind X.prog X.w) h2 pk.2 pk.1
      rw [← ek]
      exact ⟨_, _, _, pr, rfl, rfl, .cons ik1 (.cons ik2 .nil)⟩
    · obtain ⟨o, ho, hex, hd⟩ := hS.lies
      have hlen : L.length = (dedT (List.zipWith (fun a b => [a, b]) ks ls)).length := by
        have := g.perm.length_eq
        rw [List.take_length, snds, List.length_map] at this
        exact this
      have few := g.le
      rw [zlen, hpl] at few
      have I2 : Inv X pins σ H1 { s1 with heap := h3, toks := tk } := I1.kept fun b o e => old3 b o (Heap.lt_size (old2 b o e)) (old2 b o e)
      have hz3 := KSet.size (s := { s1 with heap := h3, toks := tk }) hS
      refine call_len_set (s := { s1 with heap := h3, toks := tk }) ho hex hd (KSet.fits (s := { s1 with heap := h3, toks := tk }) hS) (by rw [hz3]; omega) ⟨.int L.length, H1, I2.tok _, ⟨_, by rw [hz3]⟩, ?_⟩
      rw [hlen]
      exact k _ _ S1 M1 H1 q1 e1 ok1 rfl
end
end FL
set_option Elab.async false
set_option linter.all false
set_option maxRecDepth 100000
set_option maxHeartbeats 4000000
namespace FL
open PySem PySem.W PySem.Calls PySem.Spec PyProof.Rows L2 Evl
/-! list.index, list.count, dict.setdefault -/
theorem flat_kV (k : Key) : flatV (kV k) = true := by cases k <;> rfl
theorem flat_kVs : ∀ ks : List Key, (ks.map kV).all flatV = true
  | [] => rfl
  | k :: r => by rw [List.map_cons, List.all_cons, flat_kV, flat_kVs r]; rfl
theorem eqV_kV (a b : Key) : eqV (kV a) (kV b) = decide (a = b) := by
  cases a <;> cases b <;> rw [Bool.eq_iff_iff] <;> simp [kV, eqV]
theorem keys_rep {K : PySem.W.Frag} {S : Hp} : ∀ {ds : List D} {xs : List V} {ks : List Key}, RepL K S ds xs → ds.map keyOf = ks.map some → xs = ks.map kV
  | [], _, [], r, _ => r
  | [], _, _ :: _, _, h => nomatch h
  | _ :: _, _, [], _, h => nomatch h
  | d :: ds, _, k :: ks, ⟨x, t, e, r1, r2⟩, h => by
    rw [List.map_cons, List.map_cons] at h
    injection h with h1 h2
    rw [e, keyOf_rep r1 h1, keys_rep r2 h2]; rfl
@[simp ↓] def mIndex : OpM := fun d ds M Q => match ds with
  | [y] => ∃ (xs : List D) (ks : List Key) (k : Key) (j : Nat), viewL M d = some xs ∧ xs.map keyOf = ks.map some ∧ keyOf y = some k ∧ ks[j]? = some k ∧ (∀ m, m < j → ks[m]? ≠ some k) ∧ Q (.int j) M
  | _ => False
theorem good_index {K : PySem.W.Frag} : GoodM K (rIndex K) mIndex := by
  intro S M H x xs d ds Qd Q ok r rs q k
  match ds, q with
  | [y], ⟨zs, ks, ky, j, h1, h2, h3, h4, h5, q⟩ =>
    obtain ⟨a, us, rfl, hv, rl⟩ := view_rep ok r h1
    obtain ⟨w, rfl, rw'⟩ := rs.one'
    obtain rfl := keyOf_rep rw' h3
    obtain rfl := keys_rep rl h2
    refine ⟨a, _, _, j, kV ky, rfl, rfl, .inl (.inl hv), flat_kV _, flat_kVs _, by rw [List.getElem?_map, h4]; rfl, by rw [eqV_kV]; exact decide_eq_true rfl, fun m z hm hz => ?_, k _ _ S M H q (Ex.refl _) ok rfl⟩
    rw [List.getElem?_map] at hz
    obtain ⟨k2, hk2, rfl⟩ := Option.map_eq_some_iff.mp hz
    rw [eqV_kV]
    exact decide_eq_false fun e => h5 m hm (e ▸ hk2)
def rCount (K : PySem.W.Frag) : V → List V → Hp → VK → Prop := fun x xs H Q => ∃ (p : Addr) (ks : List Key) (k : Key), x = .ref p ∧ xs = [kV k] ∧ SqL K H p (ks.map kV) ∧ Q (.int (ks.countP (fun x => decide (x = k)) : Nat)) H
theorem count_eqU : ∀ {ks : List Key} {k : Key} {us : List Value}, Vals (ks.map kV) us → us.countP (eqU (kV k)) = ks.countP (fun x => decide (x = k))
  | [], _, _, .nil => rfl
  | a :: r, k, u :: us, .cons h t => by
    rw [List.countP_cons, count_eqU t, eqU_of h (flat_kV _), eqV_kV, List.countP_cons]
theorem mt_countK {X : Cx} : MtR X "list.count" (rCount X.K) := by
  intro pins s σ H x xs v us Q I rx rxs h
  obtain ⟨p, ks, k, rfl, rfl, hs, q⟩ := h
  cases rx
  obtain ⟨u, rfl, ru⟩ := rxs.one
  obtain ⟨its, rv, ⟨⟨cls, dd, data, sl⟩, n, ho, hc, hdn, hd⟩, hlen⟩ := I.list hs
  simp only at hc hd
  subst hc hd
  refine call_meets PySem.F.slot_list_count ⟨_, ho, rfl⟩ PySem.F.entry_list_count (PySem.F.args_list_count_2 _ _) (SeqAt.list_countAt p its.toArray n dd sl u (eqU (kV k))) ⟨ho, fun y hy => mem_eqAt ru (flat_kV _) rv (flat_kVs _) y (by simpa using hy), ?_⟩
  refine ⟨.int (ks.countP (fun x => decide (x = k)) : Nat), H, I.tok _, ⟨s.toks, ?_⟩, q⟩
  show Value.int ((its.toArray.toList.countP (eqU (kV k)) : Nat) : Int) s.toks = Value.int ((ks.countP (fun x => decide (x = k)) : Nat) : Int) s.toks
  rw [count_eqU rv]
@[simp ↓] def mCount : OpM := fun d ds M Q => match ds with
  | [y] => ∃ (xs : List D) (ks : List Key) (k : Key), viewL M d = some xs ∧ xs.map keyOf = ks.map some ∧ keyOf y = some k ∧ Q (.int (ks.countP (fun x => decide (x = k)) : Nat)) M
  | _ => False
theorem good_count {K : PySem.W.Frag} : GoodM K (rCount K) mCount := by
  intro S M H x xs d ds Qd Q ok r rs q k
  match ds, q with
  | [y], ⟨zs, ks, ky, h1, h2, h3, q⟩ =>
    obtain ⟨a, us, rfl, hv, rl⟩ := view_rep ok r h1
    obtain ⟨w, rfl, rw'⟩ := rs.one'
    obtain rfl := keyOf_rep rw' h3
    obtain rfl := keys_rep rl h2
    exact ⟨a, ks, ky, rfl, rfl, .inl (.inl hv), k _ _ S M H q (Ex.refl _) ok rfl⟩
def rSetDef : V → List V → Hp → VK → Prop := fun x xs H Q => ∃ (a : Addr) (kvs : List (Key × V)) (k : Key) (z : V), x = .ref a ∧ xs = [kV k, z] ∧ H a = some (.dK kvs) ∧ kvs.length < sizeLine ∧ (∀ v, valV kvs k = some v → Q v H) ∧ (valV kvs k = none → Q z (upd H a (.dK (putK kvs k z))))
theorem mt_setdef {X : Cx} : MtR X "dict.setdefault" rSetDef := by
  intro pins s σ H x xs v us Q I rx rxs h
  obtain ⟨a, kvs, k, z, rfl, rfl, hd, hl, q1, q2⟩ := h
  cases rx
  cases rxs with
  | cons r1 rr =>
  cases rr with
  | cons r2 rr =>
  cases rr
  exact d_setd I hd r1 r2 hl (fun v hv w' s' I' r' => ⟨v, H, I', r', q1 v hv⟩) fun hn w' s' I' r' => ⟨z, _, I', r', q2 hn⟩
@[simp ↓] def mSetDef : OpM := fun d ds M Q => match ds with
  | [y, z] => ∃ (a : Addr) (kvs : List (Key × D)) (k : Key), ownD M d = some (a, kvs) ∧ keyOf y = some k ∧ kvs.length < 100000 ∧ (match getK kvs k with
    | some d' => Q d' M
    | none => Q z (put M a (.md (putD kvs k z))))
  | _ => False
theorem good_setdef {K : PySem.W.Frag} : GoodM K rSetDef mSetDef := by
  intro S M H x xs d ds Qd Q ok r rs q k
  match ds, q with
  | [y, z], ⟨a, kvs, ky, h1, h2, hl, qq⟩ =>
    obtain ⟨rfl, rfl, hm, hS, vs, hv, rk, hk⟩ := ownD_rep ok r h1
    obtain ⟨w, u, rfl, rw', ru⟩ := rs.two
    have kk : okK ky := okK_of rw' h2
    obtain rfl := keyOf_rep rw' h2
    refine ⟨a, vs, ky, u, rfl, rfl, hv, sz_lt (by rw [rk.length]; exact hl), fun v hv2 => ?_, fun hn => ?_⟩
    · cases e : getK kvs ky with
      | none => rw [rk.getN ky e] at hv2; cases hv2
      | some d' =>
        rw [e] at qq
        obtain ⟨v2, hv3, rv⟩ := rk.val ky d' e
        rw [hv3] at hv2
        cases hv2
        exact k _ _ S M H qq (Ex.refl _) ok rv
    · cases e : getK kvs ky with
      | some d' =>
        obtain ⟨v2, hv3, rv⟩ := rk.val ky d' e
        rw [hn] at hv3; cases hv3
      | none =>
        rw [e] at qq
        exact k _ _ S _ _ qq (Ex.refl S) (ok.change hS ⟨hS, _, upd_same, rk.put ru, putD_ok hk kk⟩) ru
end FL
set_option Elab.async false
set_option linter.all false
set_option maxRecDepth 100000
set_option maxHeartbeats 4000000
namespace FL
open PySem PySem.W PySem.Calls PySem.Spec PyProof.Rows L2 Evl
/-! sorted(rows): rows of numbers and texts, alike in kind -/
def cellI : Key → Int ⊕ List Nat
  | .inl i => .inl i
  | .inr x => .inr x.cps.toList
theorem tup_items {sh : Nat → Bool} : ∀ {r : List Key} {us : List Value} (o : Nat), Vals (r.map kV) us → (∀ i k, r[i]? = some k → sh (o + i) = k.isRight) → tupItems sh o us = some (r.map cellI)
  | [], _, o, .nil, _ => rfl
  | k :: r, u :: us, o, .cons h t, g => by
    have ih := tup_items (o + 1) t fun i k' e => by rw [show o + 1 + i = o + (i + 1) by omega]; exact g (i + 1) k' e
    have g0 := g 0 k rfl
    rw [Nat.add_zero] at g0
    cases k with
    | inl n =>
      obtain ⟨t1, rfl⟩ := h
      have e : sh o ≠ true := by rw [g0]; exact Bool.false_ne_true
      show (if sh o = true then none else (tupItems sh (o + 1) us).map (Sum.inl n :: ·)) = _
      rw [if_neg e, ih]; rfl
    | inr x =>
      obtain ⟨t1, rfl⟩ := h
      have e : sh o = true := g0
      show (if sh o = true then (tupItems sh (o + 1) us).map (Sum.inr x.cps.toList :: ·) else none) = _
      rw [if_pos e, ih]; rfl
def rSortRows (K : PySem.W.Frag) : List V → Hp → VK → Prop := fun xs H Q => ∃ (a : Addr) (us : List V) (sh : Nat → Bool), xs = [.ref a] ∧ SqL K H a us ∧ (∀ u ∈ us, ∃ (t : Addr) (r : List Key), u = .ref t ∧ SqT K H t (r.map kV) ∧ r ≠ [] ∧ ∀ i k, r[i]? = some k → sh i = k.isRight) ∧
  ∀ ys p, ys.Perm us → H p = none → Q (.ref p) (upd H p (.lst ys))
theorem tups_all {h : Heap} {sh : Nat → Bool} : ∀ {vs : List Value}, (∀ v ∈ vs, ∃ f, TupOf h sh v f) → ∃ fs, TupsOf h sh vs fs
  | [], _ => ⟨[], .nil⟩
  | v :: vs, g => let ⟨f, hf⟩ := g v List.mem_cons_self; let ⟨fs, hfs⟩ := tups_all (vs := vs) fun u hu => g u (List.mem_cons_of_mem _ hu); ⟨f :: fs, .cons hf hfs⟩
theorem cr_sortedRows {X : Cx} : CallR X (.builtin "sorted") (rSortRows X.K) := by
  intro pins s σ H xs vs Q I r h
  obtain ⟨a, us, sh, rfl, hs, hx, q⟩ := h
  obtain ⟨its, rv, hl, hz⟩ := I.list hs
  rw [Vals.ref1 r]
  obtain ⟨e1, e2⟩ := refs_back rv fun x m => let ⟨t, _, e, _⟩ := hx x m; ⟨t, e⟩
  have one : ∀ v ∈ its, ∃ (t : Addr) (r : List Key) (us : List Value), v = .ref t ∧ IsTup s.heap t us.toArray ∧ Vals (r.map kV) us ∧ r ≠ [] ∧ ∀ i k, r[i]? = some k → sh i = k.isRight := fun v hv => by
    obtain ⟨t, rfl⟩ := e2 v hv
    have hm : V.ref t ∈ us := by rw [e1]; exact List.mem_map.mpr ⟨_, hv, rfl⟩
    obtain ⟨t', r, e, ht, hne, hsh⟩ := hx _ hm
    cases e
    obtain ⟨ws, rw', tp, _⟩ := I.tuple ht
    exact ⟨t, r, ws, rfl, tp, rw', hne, hsh⟩
  obtain ⟨fs, hfs⟩ := tups_all (h := s.heap) (sh := sh) (vs := its) fun v hv => by
    obtain ⟨t, r, ws, rfl, ⟨o, ho, hc, n, hd⟩, rw', hne, hsh⟩ := one v hv
    match r, ws, rw', hne with
    | k :: r, w :: ws, .cons h1 h2, _ =>
      refine ⟨w, t, o, _, n, rfl, ho, hc, hd, rfl, fun e => ?_, fun e => ?_⟩
      · cases k with
        | inl i => obtain ⟨t1, rfl⟩ := h1; exact ⟨i, t1, rfl⟩
        | inr x => have := hsh 0 _ rfl; rw [e] at this; cases this
      · cases k with
        | inr x => obtain ⟨t1, rfl⟩ := h1; exact ⟨x, t1, rfl⟩
        | inl i => have := hsh 0 _ rfl; rw [e] at this; cases this
  refine PyProof.Rows.G.sorted_tups hl.isList hfs (fun v hv => ?_) (by rw [← rv.length]; exact hz) fun st perm _ _ => ?_
  · obtain ⟨t, r, ws, rfl, ⟨o, ho, hc, n, hd⟩, rw', hne, hsh⟩ := one v hv
    refine ⟨r.map cellI, ?_⟩
    unfold PyProof.Rows.G.tupKeyC
    have it : PyProof.Rows.G.isTupObj s.heap (.ref t) = true := by
      unfold PyProof.Rows.G.isTupObj
      dsimp only
      rw [ho]; dsimp only; rw [hc]; rfl
    rw [if_pos it]
    unfold tupKey
    dsimp only
    rw [ho]; dsimp only; rw [hd]; dsimp only
    exact tup_items 0 rw' fun i k e => by rw [Nat.zero_add]; exact hsh i k e
  · have permL : (arrOf st).toList.Perm (its.zip its) := by
      rw [← pairsOf_toList]; exact Array.perm_iff_toList_perm.mp perm
    have permV : ((arrOf st).map (·.2)).toList.Perm its := by
      rw [Array.toList_map]
      have := permL.map (·.2)
      rwa [List.map_snd_zip (Nat.le_refl _)] at this
    obtain ⟨ep, he⟩ := sortedAll_at s.heap its ((arrOf st).map (·.2))
    have hp : (((arrOf st).map (·.2)).toList.map backV).Perm us := by rw [e1]; exact permV.map backV
    refine ⟨.ref _, upd H (s.heap.objs.size + 1) (.lst (((arrOf st).map (·.2)).toList.map backV)), I.laid (t' := s.toks) (fun _ _ => sortedAll_old) (Nat.le_succ _) ⟨?_, _, ep, vals_back fun u hu => e2 u (permV.mem_iff.mp hu), he⟩, rfl, q _ _ hp (I.hok.fresh (Nat.le_succ _))⟩
    rw [hp.length_eq]; exact hz
/-! in the semantics -/
def tkeyOf : D → Option (List Key)
  | .tup ds => if (ds.all fun d => (keyOf d).isSome) then some (ds.filterMap keyOf) else none
  | _ => none
theorem tkey_keys {ds : List D} {r : List Key} (h : tkeyOf (.tup ds) = some r) : ds.map keyOf = r.map some := by
  have h2 : (if (ds.all fun d => (keyOf d).isSome) = true then some (ds.filterMap keyOf) else none) = some r := h
  clear h
  split at h2
  · rename_i e
    obtain rfl := Option.some.inj h2
    clear h2
    induction ds with
    | nil => rfl
    | cons d ds ih =>
      rw [List.all_cons, Bool.and_eq_true] at e
      obtain ⟨k, hk⟩ := Option.isSome_iff_exists.mp e.1
      rw [List.map_cons, List.filterMap_cons, hk]
      show _ = some k :: _
      rw [ih e.2]
  · exact absurd h2 (by simp)
@[simp ↓] def sSortedA (own : Bool) : OpN := fun ds M Q => match ds with
  | [d] => (∃ (kvs : List (Key × D)) (ks : List Str), viewD M d = some kvs ∧ kvs.map (·.1) = ks.map Sum.inr ∧ ks.length < 64 ∧ ∀ ys : List Str, ys.Perm ks → sortedS ys = true → fresh own (ys.map D.str) M Q) ∨
    (∃ (kvs : List (Key × D)) (ks : List Int), viewD M d = some kvs ∧ kvs.map (·.1) = ks.map Sum.inl ∧ ks.length < 64 ∧ ∀ ys : List Int, ys.Perm ks → ys.Pairwise (· ≤ ·) → fresh own (ys.map D.int) M Q) ∨
    (∃ ks : List Str, viewL M d = some (ks.map D.str) ∧ ks.length < 64 ∧ ∀ ys : List Str, ys.Perm ks → sortedS ys = true → fresh own (ys.map D.str) M Q) ∨
    (∃ ks : List Int, viewL M d = some (ks.map D.int) ∧ ∀ ys : List Int, ys.Perm ks → ys.Pairwise (· ≤ ·) → fresh own (ys.map D.int) M Q) ∨
    ∃ (zs : List D) (sh : Nat → Bool), viewL M d = some zs ∧ (∀ z ∈ zs, ∃ r, tkeyOf z = some r ∧ r ≠ [] ∧ ∀ i k, r[i]? = some k → sh i = k.isRight) ∧ ∀ ys : List D, ys.Perm zs → fresh own ys M Q
  | _ => False
abbrev rSortAll (K : PySem.W.Frag) : List V → Hp → VK → Prop := fun xs H Q => rSortA K xs H Q ∨ rSortRows K xs H Q
theorem crSortedA {X : Cx} (hc : X.calm = true) : CallR X (.builtin "sorted") (rSortAll X.K) := CallR.or (crSorted hc) cr_sortedRows
theorem repL_perm {K : PySem.W.Frag} {S : Hp} {ds : List D} {xs ys : List V} (r : RepL K S ds xs) (p : ys.Perm xs) : ∃ es : List D, es.Perm ds ∧ RepL K S es ys := by
  induction p generalizing ds with
  | nil => exact ⟨ds, List.Perm.refl _, r⟩
  | cons x p ih =>
    match ds, r with
    | d :: ds, ⟨v, t, e, r1, r2⟩ =>
      injection e with e1 e2
      subst e1 e2
      obtain ⟨es, pe, re⟩ := ih r2
      exact ⟨d :: es, pe.cons d, _, _, rfl, r1, re⟩
  | swap x y l =>
    match ds, r with
    | d :: f :: ds, ⟨v, t, e, r1, ⟨v2, t2, e2, r2, r3⟩⟩ =>
      injection e with e1 e3
      subst e1 e3
      injection e2 with e4 e5
      subst e4 e5
      exact ⟨f :: d :: ds, List.Perm.swap _ _ _, _, _, rfl, r2, _, _, rfl, r1, r3⟩
  | trans p1 p2 ih1 ih2 =>
    obtain ⟨es, pe, re⟩ := ih2 r
    obtain ⟨fs, pf, rf⟩ := ih1 re
    exact ⟨fs, pf.trans pe, rf⟩
theorem good_sortedA {K : PySem.W.Frag} {own : Bool} : GoodF K (rSortAll K) (sSortedA own) := by
  intro S M H xs ds Qd Q ok r q k
  match ds, q with
  | [d], q =>
  rcases q with q | q | q | q | ⟨zs, sh, h1, h2, q⟩
  · exact .inl (good_sorted (own := own) S M H xs [d] Qd Q ok r (.inl q) k)
  · exact .inl (good_sorted (own := own) S M H xs [d] Qd Q ok r (.inr (.inl q)) k)
  · exact .inl (good_sorted (own := own) S M H xs [d] Qd Q ok r (.inr (.inr (.inl q))) k)
  · exact .inl (good_sorted (own := own) S M H xs [d] Qd Q ok r (.inr (.inr (.inr q))) k)
  · obtain ⟨x, rfl, rx⟩ := r.one'
    obtain ⟨a, us, rfl, e1, r1⟩ := view_rep ok rx h1
    refine .inr ⟨a, us, sh, rfl, .inl (.inl e1), fun u hu => ?_, fun ys p hp hf => ?_⟩
    · obtain ⟨j, hj⟩ := List.mem_iff_getElem?.mp hu
      obtain ⟨z, hz, rz⟩ := r1.get' hj
      obtain ⟨rr, hr, hne, hsh⟩ := h2 z (List.mem_of_getElem? hz)
      cases z with
      | tup es =>
        obtain ⟨t, ws, e, hq, rl⟩ := rz
        have hk := tkey_keys hr
        rw [keys_rep rl hk] at hq
        exact ⟨t, rr, e, ex_t ok.ex hq, hne, hsh⟩
      | _ => exact absurd hr (by simp [tkeyOf])
    · obtain ⟨es, pe, re⟩ := repL_perm r1 hp
      exact k.fresh ok hf (q es pe) re
end FL
set_option Elab.async false
set_option linter.all false
set_option maxRecDepth 100000
set_option maxHeartbeats 4000000
namespace FL
open PySem PySem.Spec PyProof.Rows L2 Evl
/-! ### where a def's code stands -/
/-- a table of the module: texts to numbers -/
structure KTab (K : PySem.W.Frag) (w : World) (a : Addr) (kvs : List (Str × Int)) : Prop where
  dict : ∃ es n, KDict K w a es n
  vals : ∀ z, ∃ r, PySem.W.nsIn K a z = some r ∧ match kvs.lookup z with | some i => ∃ t, r = some (.int i t) | none => r = none
structure Ctx where
  N : List Str
  sc : Scope
  fns : Str → Option (Nat × Fn)
  consts : Str → Option D
  tabs : Str → Option (List (Str × Int))
  own : Pos → Bool
  frz : Pos → Bool
  calm : Bool
  excs : List Str
  hots : Str → Option (Str → D)
  hot : Option (Addr × Str)
def Ctx.blk (C : Ctx) (scope : Scope) : Ctx := { C with sc := scope, hot := none }
/-- in a suite: the exception at a, of class c -/
def Ctx.suite (C : Ctx) (a : Addr) (c : Str) : Ctx := { C with calm := false, hot := some (a, c) }
def ixOf (x : Str) : List Str → Option Nat
  | [] => none
  | y :: r => if x = y then some 0 else (ixOf x r).map (· + 1)
theorem ixOf_get {x : Str} : ∀ {N : List Str} {i : Nat}, ixOf x N = some i → N[i]? = some x
  | [], _, h => by cases h
  | y :: r, i, h => by
    unfold ixOf at h
    by_cases e : x = y
    · rw [if_pos e] at h; cases h; rw [e]; rfl
    · rw [if_neg e] at h
      cases hr : ixOf x r with
      | none => rw [hr] at h; cases h
      | some j => rw [hr] at h; cases h; simpa using ixOf_get hr
def Ctx.slot (C : Ctx) (x : Str) : Option Nat := match C.sc.names.lookup x with
  | some .local => ixOf x C.N
  | some .cell => ixOf x C.N
  | some .free => ixOf x C.N
  | _ => none
def Ctx.lslot (C : Ctx) (x : Str) : Option Nat := match C.sc.names.lookup x with
  | some .local => ixOf x C.N
  | some .cell => ixOf x C.N
  | _ => none
def Ctx.glo (C : Ctx) (x : Str) : Bool := match C.sc.names.lookup x with
  | some .globalImplicit => !(x == ("__debug__" : Str))
  | _ => false
/-- the built-in names stand as they are -/
structure Bl (mg : Str → Option Value) : Prop where
  free : ∀ x ∈ (["isinstance", "len", "all", "any", "str", "int", "bool", "tuple", "list", "range", "zip", "enumerate", "set", "sorted", "max", "min", "sum", "dict", "ValueError"] : List Str), mg x = none
structure CtxOk (C : Ctx) (k : Nat) (X : Cx) (E : WK) : Prop where
  hN : X.N = C.N
  nd : C.N.Nodup
  calm : C.calm = true → X.calm = true
  bk : X.env.blockKind = .function
  loc : ∀ x, C.sc.names.lookup x = some .local → X.env.scope.names.lookup x = some .local
  cell : ∀ x, C.sc.names.lookup x = some .cell → X.env.scope.names.lookup x = some .cell ∧ X.fn x = true
  free : ∀ x, C.sc.names.lookup x = some .free → X.env.scope.names.lookup x = some .cell ∨ X.env.scope.names.lookup x = some .free
  glo : ∀ x, C.sc.names.lookup x = some .globalImplicit → X.env.scope.names.lookup x = some .globalImplicit
  room : C.calm = true → Room k X.A
  roomH : L2H.RoomH k X.A
  tk : L2N.Takes X fun c d σ H => E σ c d H
  fns : ∀ x n g, C.fns x = some (n, g) → Has X.prog X.w X.K X.mg X.base x k n g
  consts : ∀ x d, C.consts x = some d → ∃ v u, X.mg x = some u ∧ RelV v u ∧ ∀ S, Rep X.K S d v
  tabs : ∀ x kvs, C.tabs x = some kvs → ∃ a, X.mg x = some (.ref a) ∧ KTab X.K X.w a kvs
  bl : Bl X.mg
  excs : ∀ x ∈ C.excs, x ∈ exNames ∧ OkX X.K x ∧ X.mg x = some (exv X.K x)
  hots : ∀ f φ, C.hots f = some φ → HasE X.prog X.w X.K X.mg X.base f k φ
  hot : ∀ a c, C.hot = some (a, c) → HotOk X a c
section
variable {C : Ctx} {k : Nat} {X : Cx} {E : WK}
theorem CtxOk.hu (h : CtxOk C k X E) : X.A.units + 64 < cLine := by have := h.roomH.un; omega
theorem CtxOk.hu1 (h : CtxOk C k X E) : X.A.units + 1 < cLine := by have := h.roomH.un; omega
theorem CtxOk.var (h : CtxOk C k X E) {x : Str} {i : Nat} (hs : C.slot x = some i) {pos : Pos} (hd : (x == ("__debug__" : Str)) = false) (hcd : (x == ("__classdict__" : Str)) = false) : PE X (.Name x pos) (tVar i) := by
  unfold Ctx.slot at hs
  split at hs
  · exact pe_var (by rw [h.hN]; exact ixOf_get hs) (.inl (h.loc x (by assumption))) hd hcd
  · exact pe_var (by rw [h.hN]; exact ixOf_get hs) (.inr (.inl (h.cell x (by assumption)).1)) hd hcd
  · exact pe_var (by rw [h.hN]; exact ixOf_get hs) (.inr (h.free x (by assumption))) hd hcd
  · cases hs
theorem CtxOk.gl (h : CtxOk C k X E) {x : Str} (hg : C.glo x = true) : Gl X x ∧ (x == ("__debug__" : Str)) = false := by
  unfold Ctx.glo at hg
  split at hg
  · exact ⟨h.glo x (by assumption), by revert hg; cases (x == ("__debug__" : Str)) <;> simp⟩
  · cases hg
theorem CtxOk.tgt (h : CtxOk C k X E) {x : Str} {i : Nat} (hs : C.lslot x = some i) {pos : Pos} : PG X (.Name x pos) (gName i) := by
  unfold Ctx.lslot at hs
  split at hs
  · exact pg_name (by rw [h.hN]; exact h.nd) (by rw [h.hN]; exact ixOf_get hs) (.inl (h.loc x (by assumption))) (.inr (h.loc x (by assumption)))
  · exact pg_name (by rw [h.hN]; exact h.nd) (by rw [h.hN]; exact ixOf_get hs) (.inr (h.cell x (by assumption)).1) (.inl (h.cell x (by assumption)).2)
  · cases hs
theorem lookup_map {env : PySem.Env} {f : NameKind → Bool} : ∀ {names : List (Str × NameKind)} {x : Str} {kd : NameKind}, names.lookup x = some kd →
    (names.map fun (n, k) => if (k == NameKind.free && env.scope.kind == .function && env.kindOf n == some .cell) then (n, NameKind.cell) else (n, k)).lookup x = some kd ∨ (kd = .free ∧ (names.map fun (n, k) => if (k == NameKind.free && env.scope.kind == .function && env.kindOf n == some .cell) then (n, NameKind.cell) else (n, k)).lookup x = some .cell)
  | [], _, _, h => by simp at h
  | (n, k) :: r, x, kd, h => by
    have ih := @lookup_map env f r x kd
    show List.lookup x ((if (k == NameKind.free && env.scope.kind == .function && env.kindOf n == some .cell) = true then (n, NameKind.cell) else (n, k)) :: _) = _ ∨ (_ ∧ List.lookup x ((if (k == NameKind.free && env.scope.kind == .function && env.kindOf n == some .cell) = true then (n, NameKind.cell) else (n, k)) :: _) = _)
    cases hx : x == n with
    | true =>
      simp only [List.lookup_cons, hx] at h
      cases h
      by_cases hc : (k == NameKind.free && env.scope.kind == .function && env.kindOf n == some .cell) = true
      · rw [if_pos hc]
        refine .inr ⟨?_, by simp [List.lookup_cons, hx]⟩
        rw [Bool.and_eq_true, Bool.and_eq_true] at hc
        exact eq_of_beq hc.1.1
      · rw [if_neg hc]; exact .inl (by simp [List.lookup_cons, hx])
    | false =>
      simp only [List.lookup_cons, hx] at h
      by_cases hc : (k == NameKind.free && env.scope.kind == .function && env.kindOf n == some .cell) = true
      · rw [if_pos hc]; simp only [List.lookup_cons, hx]; exact ih h
      · rw [if_neg hc]; simp only [List.lookup_cons, hx]; exact ih h
theorem CtxOk.blk (h : CtxOk C k X E) {scope : Scope} (hk : scope.kind = .function) (s : Shared) (H : Hp) (Ca : Addr) (cl : List (Str × Addr)) (fp : List Addr) : CtxOk (C.blk scope) k (X.blk s H scope (compEnvC scope cl Ca X.env) fp) E00 where
  hN := h.hN
  nd := h.nd
  calm := h.calm
  bk := by show (if (relabel scope X.env).kind.isAnnotationScope then ScopeKind.function else (relabel scope X.env).kind) = _; rw [show (relabel scope X.env).kind = scope.kind from rfl, hk]; rfl
  loc := fun x e => by
    rcases lookup_map (env := X.env) (f := fun _ => true) e with q | ⟨q, _⟩
    · exact q
    · cases q
  cell := fun x e => by
    refine ⟨?_, by show (scope.names.lookup x == some .cell) = true; rw [show scope.names.lookup x = some .cell from e]; rfl⟩
    rcases lookup_map (env := X.env) (f := fun _ => true) e with q | ⟨q, _⟩
    · exact q
    · cases q
  free := fun x e => by
    rcases lookup_map (env := X.env) (f := fun _ => true) e with q | ⟨_, q⟩
    · exact .inr q
    · exact .inl q
  glo := fun x e => by
    rcases lookup_map (env := X.env) (f := fun _ => true) e with q | ⟨q, _⟩
    · exact q
    · cases q
  room := h.room
  roomH := h.roomH
  tk := fun u s' x => by
    obtain ⟨_, _, _, _, _, _, _, _, _, _, _, _, _, _, _, _, z⟩ := x
    exact z.elim
  fns := h.fns
  consts := h.consts
  tabs := h.tabs
  bl := h.bl
  excs := h.excs
  hots := h.hots
  hot := fun _ _ e => nomatch e
end
/-! ### the semantics of expressions -/
def evConst (c : Const) : SE := match c with
  | .none => wC .non
  | .bool b => wC (.bl b)
  | .int i => wC (.int i)
  | .str x => if PyData.strOk x = true then wC (.str x) else wBot
  | _ => wBot
def opSem (own : Bool) : Operator → Option Op2
  | .Add => some (sAdd own)
  | .Sub => some sSub
  | .Mult => some (sMulA own)
  | .FloorDiv => some sDiv
  | .Mod => some sMod
  | .Pow => some sPow
  | _ => none
def cmpSem : CmpOp → Option Op2
  | .Eq => some (sEq false)
  | .NotEq => some (sEq true)
  | .Lt => some sLt
  | .LtE => some sLe
  | .Gt => some sGt
  | .GtE => some sGe
  | .Is => some (sIs false)
  | .IsNot => some (sIs true)
  | .In => some (sInD false)
  | .NotIn => some (sInD true)
def nameSem (C : Ctx) (x : Str) (pos : Pos) : SE := if (x == ("__debug__" : Str) || x == ("__classdict__" : Str)) then wBot else match C.slot x with
  | some i => if C.frz pos then wFrz (wSlot i) else wSlot i
  | none => if C.glo x then (match C.consts x with
    | some d => wC d
    | none => wBot) else wBot
def argsSem (ev : Expr → SE) : List Expr → SA
  | [] => aNil
  | a :: es => aCons (ev a) (argsSem ev es)
inductive BI where
  | len | all | any | sum | tuple | list | min2 | max2 | int | sorted
def biOf (x : Str) (n : Nat) : Option BI := if x = "len" then some .len else if x = "all" then some .all else if x = "any" then some .any else if x = "sum" then some .sum else if x = "tuple" then some .tuple else if x = "list" then some .list else
  if x = "min" ∧ n = 2 then some .min2 else if x = "max" ∧ n = 2 then some .max2 else if x = "int" then some .int else if x = "sorted" then some .sorted else none
def biSem (own : Bool) : BI → OpN
  | .len => sLen
  | .all => sAll
  | .any => sAny
  | .sum => sSum
  | .tuple => sTuple
  | .list => sList own
  | .min2 => sMin2
  | .max2 => sMax2
  | .int => sIntF
  | .sorted => sSortedA own
inductive MT where
  | append | extend | clear | pop | popAt | insert | join | dget | update | index | count | setdef
def mtOf2 (x : Str) (n : Nat) : Option MT := if x = "index" ∧ n = 1 then some .index else if x = "count" ∧ n = 1 then some .count else if x = "setdefault" ∧ n = 2 then some .setdef else none
def mtOf (x : Str) (n : Nat) : Option MT := if x = "append" ∧ n = 1 then some .append else if x = "extend" ∧ n = 1 then some .extend else if x = "clear" ∧ n = 0 then some .clear else if x = "pop" ∧ n = 0 then some .pop else if x = "pop" ∧ n = 1 then some .popAt else
  if x = "insert" ∧ n = 2 then some .insert else if x = "join" ∧ n = 1 then some .join else if x = "get" ∧ n = 2 then some .dget else if x = "update" ∧ n = 1 then some .update else mtOf2 x n
def mtSem : MT → String × OpM
  | .append => ("list", mAppend)
  | .extend => ("list", mExtend)
  | .clear => ("list", mClear)
  | .pop => ("list", mPop)
  | .popAt => ("list", mPopAt)
  | .insert => ("list", mInsert)
  | .join => ("str", mJoin)
  | .dget => ("dict", mDGet)
  | .update => ("dict", mUpdate)
  | .index => ("list", mIndex)
  | .count => ("list", mCount)
  | .setdef => ("dict", mSetDef)
structure Rec where
  e : Ctx → Expr → SE
  t : Ctx → Expr → ST
def noStar (es : List Expr) : Bool := es.all fun e => !starred e
def tBot : ST := fun _ _ _ _ => False
def boolE (ev : Expr → SE) (op : BoolOp) : List Expr → SE
  | [] => wBot
  | [a] => ev a
  | a :: r => match op with
    | .And => wAnd (ev a) (boolE ev op r)
    | .Or => wOr (ev a) (boolE ev op r)
def boolT (ev : Expr → ST) (op : BoolOp) : List Expr → ST
  | [] => tBot
  | [a] => ev a
  | a :: r => match op with
    | .And => tAnd (ev a) (boolT ev op r)
    | .Or => tOr (ev a) (boolT ev op r)
def cmpE (r : Rec) (C : Ctx) (a : Expr) (ops : List CmpOp) (cs : List Expr) : SE := match ops, cs with
  | [op], [b] => (match cmpSem op with
    | some f => if behindInMarks op b then wBot else w2 f (r.e C a) (r.e C b)
    | none => wBot)
  | [op, op'], [b, c] => (match cmpSem op, cmpSem op' with
    | some f, some g => if lastMarks [op, op'] [b, c] then wBot else w3 f g (r.e C a) (r.e C b) (r.e C c)
    | _, _ => wBot)
  | _, _ => wBot
def isiSem (r : Rec) (C : Ctx) (args : List Expr) : SE := match args with
  | [a, .Name x _] => (match tyName x with
    | some t => if C.glo x && !starred a then wIs1 t (r.e C a) else wBot
    | none => (match C.hot with
      | some (p, c) => if x = "ValueError" then (if C.glo "ValueError" && !starred a then wIsX p true (r.e C a) else wBot) else if C.glo x && !starred a && decide (x ∈ C.excs) then wIsX p (subX c x) (r.e C a) else wBot
      | none => wBot))
  | [a, .Tuple [.Name x _, .Name z _] _ _] => (match tyName x, tyName z with
    | some t, some u => if C.glo x && C.glo z && !starred a then wIs2 t u (r.e C a) else wBot
    | _, _ => wBot)
  | _ => wBot
def lenSetArg (f : Str) (args : List Expr) : Option Expr := match args with
  | [.Call (.Name x _) [a] [] _] => if f = "len" ∧ x = "set" then some a else none
  | _ => none
def lenSetZArg (f : Str) (args : List Expr) : Option (Expr × Expr) := match args with
  | [.Call (.Name x _) [.Call (.Name y _) [.Call (.Name z _) [a, b] [] _] [] _] [] _] => if f = "len" ∧ x = "set" ∧ y = "list" ∧ z = "zip" then some (a, b) else none
  | _ => none
def sortItArg (f : Str) (args : List Expr) : Option (Expr × Pos × Pos) := match args with
  | [.Call (.Attribute o m apos) [] [] cpos] => if f = "sorted" ∧ m = "items" then some (o, apos, cpos) else none
  | _ => none
def hotArg (C : Ctx) (f : Str) (args : List Expr) : Option (Addr × D × Expr) := match C.hot, C.hots f, args with
  | some (p, c), some φ, [a] => some (p, φ c, a)
  | _, _, _ => none
def coolBI : BI → Bool
  | .len => true
  | .tuple => true
  | .list => true
  | .int => true
  | _ => false
def callSem (r : Rec) (C : Ctx) (f : Str) (args : List Expr) (pos : Pos) : SE := if noStar args && C.glo f then (match C.fns f with
  | some (n, g) => if C.calm then wCall n g (argsSem (r.e C) args) else wBot
  | none => if f = "isinstance" then isiSem r C args else match lenSetZArg f args with
    | some (a, b) => if (C.glo "set" && (C.glo "list" && C.glo "zip")) && (C.calm && (!starred a && !starred b)) then wLenSetZ (argsSem (r.e C) [a, b]) else wBot
    | none => match lenSetArg f args with
    | some a => if C.glo "set" && (C.calm && !starred a) then wLenSet (r.e C a) else wBot
    | none => match sortItArg f args with
      | some (o, apos, cpos) => if C.calm && (notCall0 o && (apos.endLine == cpos.line)) then wSortIt (r.e C o) else wBot
      | none => match hotArg C f args with
        | some (p, d, a) => if !starred a then wHot p d (r.e C a) else wBot
        | none => match biOf f args.length, args with
          | some b, _ :: _ => if C.calm || coolBI b then wF (biSem (C.own pos) b) (argsSem (r.e C) args) else wBot
          | _, _ => wBot) else wBot
@[simp ↓] def wTab (kvs : List (Str × Int)) (we wf : SE) : SE := fun env M Q X => we env M (fun d M1 => wf env M1 (fun d2 M2 => match d, d2 with
  | .str z, .int j => Q (.int ((kvs.lookup z).getD j)) M2
  | _, _ => False) X) X
def methSem (r : Rec) (C : Ctx) (o : Expr) (m : Str) (apos : Pos) (args : List Expr) (cpos : Pos) : SE := if noStar args && notCall0 o && (apos.endLine == cpos.line) && decide (args.length < 30) then
  (match o, args with
  | .Name x _, [a, b] => (match C.tabs x with
    | some kvs => if m = "get" && C.glo x then wTab kvs (r.e C a) (r.e C b) else wBot
    | none => (match mtOf m 2 with
      | some t => wM (mtSem t).1 (mtSem t).2 (r.e C o) (argsSem (r.e C) args)
      | none => wOnly (r.e C o)))
  | _, _ => (match mtOf m args.length with
    | some t => wM (mtSem t).1 (mtSem t).2 (r.e C o) (argsSem (r.e C) args)
    | none => wOnly (r.e C o))) else wBot
def plainIx : Expr → Bool
  | .Slice _ _ none _ => false
  | _ => true
/-- names of targets, their slots -/
def tgNames (C : Ctx) : List Expr → Option (List (Str × Nat))
  | [] => some []
  | .Name x _ :: r => (match C.lslot x, tgNames C r with
    | some i, some l => some ((x, i) :: l)
    | _, _ => none)
  | _ :: _ => none
def compTg (C : Ctx) (tg : Expr) : Option (List (Str × Nat) × (Sl → D → Sl → Prop)) := match tg with
  | .Name x _ => (match C.lslot x with
    | some i => some ([(x, i)], asT1 i)
    | none => none)
  | .Tuple es _ _ => (match tgNames C es with
    | some l => some (l, asT (l.map (·.2)))
    | none => none)
  | _ => none
def isSet : Expr → Bool
  | .Set .. => true
  | _ => false
def iterSem (r : Rec) (C : Ctx) (tg iter : Expr) : SI := match iter with
  | .Call (.Name f _) args [] _ => if C.glo f && (C.fns f).isNone then (match args with
    | [a] => if f = "range" then (if starred a then fun _ _ _ _ => False else wRange1 (argsSem (r.e C) args)) else
      (match tg with
      | .Tuple .. => if f = "enumerate" then (match a with
        | .Name .. => if starred a then fun _ _ _ _ => False else wEnum true (argsSem (r.e C) args)
        | _ => if starred a then fun _ _ _ _ => False else wEnum true (argsSem (r.e C) args)) else wIt (r.e C iter)
      | _ => wIt (r.e C iter))
    | [a, b] => if f = "range" then (if starred a || starred b then fun _ _ _ _ => False else wRange2 (argsSem (r.e C) args)) else
      (match tg with
      | .Tuple .. => if f = "zip" then (if starred a || starred b then fun _ _ _ _ => False else wZipA (argsSem (r.e C) args)) else wIt (r.e C iter)
      | _ => wIt (r.e C iter))
    | _ => wIt (r.e C iter)) else wIt (r.e C iter)
  | _ => wIt (r.e C iter)
def ifsSem (ev : Expr → ST) : List Expr → Option ST
  | [] => some tTrue
  | [c] => some (ev c)
  | _ => none
def compSem (r : Rec) (C : Ctx) (own : Bool) (elt tg iter : Expr) (ifs : List Expr) (scope : Scope) : SE := match compTg (C.blk scope) tg, ifsSem (r.t (C.blk scope)) ifs with
  | some (ow, asg), some tt => if C.calm && (blkC C.N C.sc scope ow && !isSet iter) then wLc own (iterSem r C tg iter) asg (ow.map (·.2)) tt (r.e (C.blk scope) elt) else wBot
  | _, _ => wBot
@[simp ↓] def wNewD : SE := fun _ M Q _ => ∀ p, M p = none → Q (.ptr p) (put M p (.md []))
def partSem (ev : Expr → SE) : Option Expr → Option SE
  | none => none
  | some e => some (ev e)
def dispSem (ev : Expr → SE) : List (Option Expr) → List Expr → Option (List (SE × SE))
  | [], [] => some []
  | some k :: ks, v :: vs => (match dispSem ev ks vs with
    | some l => some ((ev k, ev v) :: l)
    | none => none)
  | _, _ => none
def stepE (r : Rec) (C : Ctx) (x : Expr) : SE := match x with
  | .Name x pos => nameSem C x pos
  | .Constant c _ _ => evConst c
  | .BinOp a op b pos => (match opSem (C.own pos) op with
    | some f => w2 f (r.e C a) (r.e C b)
    | none => wBot)
  | .UnaryOp .Not a _ => wNot (r.e C a)
  | .UnaryOp .USub a _ => wNeg (r.e C a)
  | .BoolOp op vs _ => boolE (r.e C) op vs
  | .IfExp c a b _ => wIf (r.t C c) (r.e C a) (r.e C b)
  | .Compare a ops cs _ => cmpE r C a ops cs
  | .Tuple es _ _ => if noStar es then wF sTup (argsSem (r.e C) es) else wBot
  | .List es pos => if noStar es then wF (sLst (C.own pos)) (argsSem (r.e C) es) else wBot
  | .Dict [] [] _ => wNewD
  | .Dict (k :: ks) vs _ => if ks.length < 15 then (match dispSem (r.e C) (k :: ks) vs with
    | some l => wDisp l
    | none => wBot) else wBot
  | .Subscript e (.Slice lo hi none _) pos => wCut (C.own pos) (r.e C e) (partSem (r.e C) lo) (partSem (r.e C) hi)
  | .Subscript e (.Slice none none (some (.UnaryOp .USub (.Constant (.int 1) _ _) _)) _) pos => wRev (C.own pos) (r.e C e)
  | .Subscript a ix _ => if plainIx ix then w2 sSub1 (r.e C a) (r.e C ix) else wBot
  | .Call (.Name f _) args [] pos => callSem r C f args pos
  | .Call (.Attribute o m apos) args [] cpos => methSem r C o m apos args cpos
  | .ListComp elt [⟨tg, iter, ifs, 0⟩] scope pos => compSem r C (C.own pos) elt tg iter ifs scope
  | _ => wBot
def stepT (r : Rec) (C : Ctx) (x : Expr) : ST := match x with
  | .UnaryOp .Not a _ => tNot (r.t C a)
  | .BoolOp op vs _ => boolT (r.t C) op vs
  | .IfExp .. => tBot
  | .Compare a ops cs _ => wTest (cmpE r C a ops cs)
  | x => wTest (r.e C x)
def evStep (r : Rec) : Rec := ⟨stepE r, stepT r⟩
def ev : Nat → Rec
  | 0 => ⟨fun _ _ => wBot, fun _ _ => tBot⟩
  | n + 1 => evStep (ev n)
end FL
set_option Elab.async false
set_option linter.all false
set_option maxRecDepth 100000
set_option maxHeartbeats 4000000
namespace FL
open PySem PySem.Spec PyProof.Rows L2 Evl
section
variable {X : Cx} {o e f : Expr} {apos cpos p : Pos} {kvs : List (Str × Int)} {x z : Str} {j : Int} {a : Addr}
theorem pe_kget {ty tx : TE} (T : KTab X.K X.w a kvs) (ho : PE X o (tC (.ref a))) (he : PE X e ty) (hf : PE X f tx) (m : M2 X o "get" apos e f cpos) :
    PE X (.Call (.Attribute o "get" apos) [e, f] [] cpos) (fun σ H Q => ty σ H fun y H1 => tx σ H1 fun d H2 => ∃ z j, y = .str z ∧ d = .int j ∧ Q (.int ((kvs.lookup z).getD j)) H2) := by
  refine ⟨fun pins s σ H Q I h => ?_⟩
  obtain ⟨es, n, D⟩ := T.dict
  refine wpAny_Call_method m.base m.few m.line PySem.F.plainAttrs_dict PySem.F.slot_dict_get PySem.F.type_dict_get (thn (ho.run pins s σ H (fun v H' => v = .ref a ∧ H' = H) I ⟨rfl, rfl⟩) fun u s1 ⟨x, H1, I1, rx, ex, eh⟩ => ?_)
  subst ex eh
  obtain rfl : u = Value.ref a := rx
  refine ⟨kd_type D I1, (PySem.W.mapOf_K (prog := X.prog) I1.kIn D.at_ D.lit).noDict, ?_⟩
  rw [m.trees]
  refine Calls.callWith_builtin rfl (Calls.evalArgs_plain (Calls.spliced_cons (thn (he.run pins s1 σ _ _ I1 h) fun iv s2 ⟨y, H2, I2, ry, q2⟩ =>
    Calls.spliced_cons (thn (hf.run pins s2 σ H2 _ I2 q2) fun fv s3 ⟨d, H3, I3, rd, z, j, ey, ed, q3⟩ => Calls.spliced_nil ?_))))
  subst ey ed
  obtain ⟨t, rfl⟩ := ry
  obtain ⟨t2, rfl⟩ := rd
  have hm := PySem.W.mapOf_K (prog := X.prog) I3.kIn D.at_ D.lit
  refine call_meetsIn PySem.F.slot_dict_get hm.typeIs PySem.F.entry_dict_get (PySem.F.args_dict_get_3 _ _ _) (meets_dict_get_default (PySem.strKind X.prog X.w) a (PySem.strKind_is X.prog X.w z t) D.low (.int j t2)) ⟨_, hm, ?_⟩
  obtain ⟨r, hr, hv⟩ := T.vals z
  refine ⟨.int ((kvs.lookup z).getD j), H3, I3.tok _, ?_, q3⟩
  show RelV _ ((PySem.findBy Value.isStrOf es z).getD (.int j t2))
  rw [PySem.W.find_K D.at_ hr]
  cases hk : kvs.lookup z with
  | none => rw [hk] at hv; rw [hv]; exact ⟨_, rfl⟩
  | some i => rw [hk] at hv; obtain ⟨t3, hv⟩ := hv; rw [hv]; exact ⟨_, rfl⟩
end
def Sound (r : Rec) : Prop := ∀ C k X E, CtxOk C k X E → (∀ e, EW X E e (r.e C e)) ∧ (∀ e, TW X E e (r.t C e))
theorem tw_bot {X : Cx} {E : WK} {e : Expr} : TW X E e tBot := ⟨fun _ _ _ _ _ _ ⟨_, _, _, _, _, _, _, z, _⟩ => z.elim⟩
theorem ww_bot {X : Cx} {E : WK} {e : Expr} : WW X E e tBot := ⟨fun _ _ _ _ _ _ _ ⟨_, _, _, _, _, _, _, z, _⟩ => z.elim⟩
section
variable {r : Rec} {C : Ctx} {k : Nat} {X : Cx} {E : WK}
theorem sd_const {c : Const} {n pos} : EW X E (.Constant c n pos) (evConst c) := by
  cases c <;> first
    | exact ew_const pe_non fun _ => rfl
    | exact ew_const pe_bl fun _ => rfl
    | exact ew_const pe_int fun _ => rfl
    | exact ew_bot
    | (unfold evConst
       dsimp only
       split
       · exact ew_const pe_str fun _ => ⟨rfl, by assumption⟩
       · exact ew_bot)
theorem sd_name (h : CtxOk C k X E) {x : Str} {pos : Pos} : EW X E (.Name x pos) (nameSem C x pos) := by
  unfold nameSem
  split
  · exact ew_bot
  · rename_i hd
    rw [Bool.or_eq_true, not_or] at hd
    split
    · rename_i i hs
      have v := h.var hs (pos := pos) (by revert hd; cases (x == ("__debug__" : Str)) <;> simp) (by revert hd; cases (x == ("__classdict__" : Str)) <;> simp)
      split
      · exact ew_frz (ew_slot v)
      · exact ew_slot v
    · split
      · rename_i hg
        split
        · rename_i d hc
          obtain ⟨v, u, hm, rv, hr⟩ := h.consts x d hc
          exact ew_const (pe_glob (h.gl hg).1 hm rv (h.gl hg).2) hr
        · exact ew_bot
      · exact ew_bot
theorem noStar_cons {a : Expr} {es : List Expr} (h : noStar (a :: es) = true) : starred a = false ∧ noStar es = true := by
  unfold noStar at *
  rw [List.all_cons, Bool.and_eq_true] at h
  exact ⟨by have := h.1; revert this; cases starred a <;> simp, h.2⟩
theorem sd_args {ev : Expr → SE} (hev : ∀ e, EW X E e (ev e)) : ∀ {es : List Expr}, noStar es = true → AW X E es (argsSem ev es)
  | [], _ => aw_nil
  | a :: es, h => aw_cons (noStar_cons h).1 (hev a) (sd_args hev (noStar_cons h).2)
theorem sd_bin (hev : ∀ e, EW X E e (r.e C e)) {a b : Expr} {op : Operator} {pos : Pos} {own : Bool} {f : Op2} (hf : opSem own op = some f) : EW X E (.BinOp a op b pos) (w2 f (r.e C a) (r.e C b)) := by
  cases op <;> first | (cases hf; done) | cases hf
  · exact ew_op orAdd good_add (hev a) (hev b)
  · exact ew_op op_sub good_sub (hev a) (hev b)
  · exact ew_op orMulA good_mulA (hev a) (hev b)
  · exact ew_op op_mod good_mod (hev a) (hev b)
  · exact ew_op op_pow good_pow (hev a) (hev b)
  · exact ew_op op_fdivW good_div (hev a) (hev b)
/-- a comparison's rule -/
theorem cmp_rule (h : CtxOk C k X E) {op : CmpOp} {f : Op2} (hf : cmpSem op = some f) : ∃ rr, OpR X (compareOp op) rr ∧ Good2 X.K rr f := by
  cases op <;> cases hf
  · exact ⟨_, orEq h.hu, good_eq⟩
  · exact ⟨_, orNe h.hu, good_eq⟩
  · exact ⟨_, orLt, good_ord⟩
  · exact ⟨_, orLe, good_ord⟩
  · exact ⟨_, orGt, good_ord⟩
  · exact ⟨_, orGe, good_ord⟩
  · exact ⟨_, op_isN, good_is⟩
  · exact ⟨_, op_notN, good_is⟩
  · exact ⟨_, orInAll h.hu1, good_inD⟩
  · exact ⟨_, orNotInAll h.hu1, good_inD⟩
theorem sd_cmp (h : CtxOk C k X E) (hev : ∀ e, EW X E e (r.e C e)) {a : Expr} {ops : List CmpOp} {cs : List Expr} {pos : Pos} : EW X E (.Compare a ops cs pos) (cmpE r C a ops cs) ∧ TW X E (.Compare a ops cs pos) (wTest (cmpE r C a ops cs)) := by
  have bot : EW X E (.Compare a ops cs pos) wBot ∧ TW X E (.Compare a ops cs pos) (wTest wBot) := ⟨ew_bot, ⟨fun _ _ _ _ _ _ ⟨_, _, _, _, _, _, _, z, _⟩ => z.elim⟩⟩
  unfold cmpE
  split
  · split
    · split
      · exact bot
      · rename_i op b _ f hf hm
        obtain ⟨rr, o1, g1⟩ := cmp_rule h hf
        have hm' : behindInMarks op b = false := by revert hm; cases behindInMarks op b <;> simp
        exact ⟨ew_cmp o1 g1 hm' (hev a) (hev b), tw_cmp o1 g1 hm' (hev a) (hev b)⟩
    · exact bot
  · split
    · split
      · exact bot
      · rename_i op op' b c _ _ f g hf hg hm
        obtain ⟨rr, o1, g1⟩ := cmp_rule h hf
        obtain ⟨rr2, o2, g2⟩ := cmp_rule h hg
        have hm' : lastMarks [op, op'] [b, c] = false := by revert hm; cases lastMarks [op, op'] [b, c] <;> simp
        exact ⟨ew_chain o1 o2 g1 g2 hm' (hev a) (hev b) (hev c), tw_chain o1 o2 g1 g2 hm' (hev a) (hev b) (hev c)⟩
    · exact bot
  · exact bot
theorem sd_boolE {ev : Expr → SE} (hev : ∀ e, EW X E e (ev e)) {op : BoolOp} {pos : Pos} : ∀ {es : List Expr}, EW X E (.BoolOp op es pos) (boolE ev op es)
  | [] => ew_bot
  | [a] => ew_one (hev a)
  | a :: b :: es => by
    have ih := sd_boolE hev (op := op) (pos := pos) (es := b :: es)
    cases op with
    | And => exact ew_and (hev a) ih
    | Or => exact ew_or (hev a) ih
theorem sd_boolT {ev : Expr → ST} (hev : ∀ e, TW X E e (ev e)) {op : BoolOp} {pos : Pos} : ∀ {es : List Expr}, WW X E (.BoolOp op es pos) (boolT ev op es)
  | [] => ww_bot
  | [a] => by
    cases op with
    | And => exact ww_and1 (hev a)
    | Or => exact ww_or1 (hev a)
  | a :: b :: es => by
    have ih := sd_boolT hev (op := op) (pos := pos) (es := b :: es)
    cases op with
    | And => exact ww_and (hev a) ih
    | Or => exact ww_or (hev a) ih
end
end FL
set_option Elab.async false
set_option linter.all false
set_option maxRecDepth 100000
set_option maxHeartbeats 4000000
namespace FL
open PySem PySem.Spec PyProof.Rows L2 Evl
section
variable {r : Rec} {C : Ctx} {k : Nat} {X : Cx} {E : WK}
theorem not_true {b : Bool} (h : (!b) = true) : b = false := by cases b <;> simp_all
theorem sd_isi (h : CtxOk C k X E) (hev : ∀ e, EW X E e (r.e C e)) {p pos : Pos} {args : List Expr} (hg : C.glo "isinstance" = true) : EW X E (.Call (.Name "isinstance" p) args [] pos) (isiSem r C args) := by
  have hm := h.bl.free "isinstance" (by simp)
  unfold isiSem
  split
  · split
    · split
      · rename_i a x _ _ t ht hc
        rw [Bool.and_eq_true] at hc
        exact ew_isi (h.gl hg).1 hm (h.gl hc.1).1 (h.bl.free x (by have := (tyName_ok ht).1; simp at this ⊢; rcases this with rfl | rfl | rfl | rfl | rfl <;> simp)) ht (not_true hc.2) (hev a)
      · exact ew_bot
    · split
      · rename_i p c hh
        have H := h.hot p c hh
        split
        · subst_vars
          split
          · rename_i hc
            rw [Bool.and_eq_true] at hc
            exact ew_isV H (h.gl hg).1 hm (h.gl hc.1).1 (h.bl.free _ (by simp)) (not_true hc.2) (hev _)
          · exact ew_bot
        · split
          · rename_i hc
            rw [Bool.and_eq_true, Bool.and_eq_true, decide_eq_true_eq] at hc
            obtain ⟨h1, h2, h3⟩ := h.excs _ hc.2
            exact ew_isX H (h.gl hg).1 hm (h.gl hc.1.1).1 (h.gl hc.1.1).2 h3 (H.ok.kit _ h1 h2.glo) (not_true hc.1.2) (hev _)
          · exact ew_bot
      · exact ew_bot
  · split
    · split
      · rename_i a x _ z _ _ _ _ _ t u ht hu hc
        rw [Bool.and_eq_true, Bool.and_eq_true] at hc
        exact ew_isi2 (h.gl hg).1 hm (h.gl hc.1.1).1 (h.bl.free x (by have := (tyName_ok ht).1; simp at this ⊢; rcases this with rfl | rfl | rfl | rfl | rfl <;> simp)) ht (h.gl hc.1.2).1 (h.bl.free z (by have := (tyName_ok hu).1; simp at this ⊢; rcases this with rfl | rfl | rfl | rfl | rfl <;> simp)) hu (not_true hc.2) (hev a)
      · exact ew_bot
    · exact ew_bot
  · exact ew_bot
theorem calm_of {c : Bool} {b : BI} (h : (c || coolBI b) = true) (hb : coolBI b = false) : c = true := by rw [hb, Bool.or_false] at h; exact h
theorem sd_bi (h : CtxOk C k X E) (hev : ∀ e, EW X E e (r.e C e)) {p pos : Pos} {f : Str} {a : Expr} {es : List Expr} {b : BI} {own : Bool} (hg : C.glo f = true) (hs : noStar (a :: es) = true) (hb : biOf f (a :: es).length = some b) (hcb : (C.calm || coolBI b) = true) : EW X E (.Call (.Name f p) (a :: es) [] pos) (wF (biSem own b) (argsSem (r.e C) (a :: es))) := by
  have hA := sd_args hev hs
  have hm : ∀ x ∈ (["isinstance", "len", "all", "any", "str", "int", "bool", "tuple", "list", "range", "zip", "enumerate", "set", "sorted", "max", "min", "sum", "dict", "ValueError"] : List Str), X.mg x = none := h.bl.free
  obtain ⟨hgl, hd⟩ := h.gl hg
  unfold biOf at hb
  split at hb
  · cases hb; subst_vars; exact ew_callB crLen good_len hgl (hm _ (by simp)) PySem.boot_len (by decide) hd hs hA
  split at hb
  · cases hb; subst_vars; exact ew_callB (cr_all (h.calm (calm_of hcb rfl))) good_all hgl (hm _ (by simp)) (by decide +kernel) (by decide) hd hs hA
  split at hb
  · cases hb; subst_vars; exact ew_callB (cr_any (h.calm (calm_of hcb rfl))) good_any hgl (hm _ (by simp)) (by decide +kernel) (by decide) hd hs hA
  split at hb
  · cases hb; subst_vars; exact ew_callB (cr_sum (h.calm (calm_of hcb rfl))) good_sum hgl (hm _ (by simp)) (by decide +kernel) (by decide) hd hs hA
  split at hb
  · cases hb; subst_vars; exact ew_callTy call_tuple_of good_tuple hgl (hm _ (by simp)) (by decide +kernel) (by decide) hd hs hA
  split at hb
  · cases hb; subst_vars; exact ew_callTy call_list_of good_list hgl (hm _ (by simp)) (by decide +kernel) (by decide) hd hs hA
  split at hb
  · rename_i hx; cases hb; obtain ⟨rfl, _⟩ := hx; exact ew_callB (call_min2 (h.calm (calm_of hcb rfl))) good_min2 hgl (hm _ (by simp)) (by decide +kernel) (by decide) hd hs hA
  split at hb
  · rename_i hx; cases hb; obtain ⟨rfl, _⟩ := hx; exact ew_callB (call_max2 (h.calm (calm_of hcb rfl))) good_max2 hgl (hm _ (by simp)) (by decide +kernel) (by decide) hd hs hA
  split at hb
  · cases hb; subst_vars; exact ew_callTy call_int1 good_intF hgl (hm _ (by simp)) (by decide +kernel) (by decide) hd hs hA
  split at hb
  · cases hb; subst_vars; exact ew_callB (crSortedA (h.calm (calm_of hcb rfl))) good_sortedA hgl (hm _ (by simp)) (by decide +kernel) (by decide) hd hs hA
  · cases hb
theorem lenSetArg_ok {f : Str} {args : List Expr} {a : Expr} (h : lenSetArg f args = some a) : ∃ p q, f = "len" ∧ args = [.Call (.Name "set" p) [a] [] q] := by
  unfold lenSetArg at h
  split at h
  · split at h
    · rename_i e
      cases h
      obtain ⟨rfl, rfl⟩ := e
      exact ⟨_, _, rfl, rfl⟩
    · cases h
  · cases h
theorem lenSetZArg_ok {f : Str} {args : List Expr} {a b : Expr} (h : lenSetZArg f args = some (a, b)) : ∃ p2 p3 p4 q2 q3 q4, f = "len" ∧ args = [.Call (.Name "set" p2) [.Call (.Name "list" p3) [.Call (.Name "zip" p4) [a, b] [] q4] [] q3] [] q2] := by
  unfold lenSetZArg at h
  split at h
  · split at h
    · rename_i e
      cases h
      obtain ⟨rfl, rfl, rfl, rfl⟩ := e
      exact ⟨_, _, _, _, _, _, rfl, rfl⟩
    · cases h
  · cases h
theorem sortItArg_ok {f : Str} {args : List Expr} {o : Expr} {apos cpos : Pos} (h : sortItArg f args = some (o, apos, cpos)) : f = "sorted" ∧ args = [.Call (.Attribute o "items" apos) [] [] cpos] := by
  unfold sortItArg at h
  split at h
  · split at h
    · rename_i e
      cases h
      obtain ⟨rfl, rfl⟩ := e
      exact ⟨rfl, rfl⟩
    · cases h
  · cases h
theorem hotArg_ok {f : Str} {args : List Expr} {p : Addr} {d : D} {a : Expr} (h : hotArg C f args = some (p, d, a)) : ∃ c φ, C.hot = some (p, c) ∧ C.hots f = some φ ∧ d = φ c ∧ args = [a] := by
  unfold hotArg at h
  split at h
  · cases h
    exact ⟨_, _, by assumption, by assumption, rfl, rfl⟩
  · cases h
theorem sd_call (h : CtxOk C k X E) (hev : ∀ e, EW X E e (r.e C e)) {p pos : Pos} {f : Str} {args : List Expr} : EW X E (.Call (.Name f p) args [] pos) (callSem r C f args pos) := by
  unfold callSem
  split
  · rename_i hc
    rw [Bool.and_eq_true] at hc
    obtain ⟨hs, hg⟩ := hc
    split
    · rename_i n g hf
      split
      · rename_i hcalm
        have H := h.fns f n g hf
        cases args with
        | nil => exact ew_call0 H h.tk (h.room hcalm) (h.gl hg).1 (h.gl hg).2
        | cons a es => exact ew_call H h.tk (h.room hcalm) (h.gl hg).1 (h.gl hg).2 hs (sd_args hev hs)
      · exact ew_bot
    · split
      · subst_vars; exact sd_isi h hev hg
      · split
        · rename_i a b ha
          obtain ⟨p2, p3, p4, q2, q3, q4, rfl, rfl⟩ := lenSetZArg_ok ha
          split
          · rename_i hc2
            simp only [Bool.and_eq_true] at hc2
            obtain ⟨⟨g1, g2, g3⟩, g4, s1, s2⟩ := hc2
            exact ew_lenSetZ (h.calm g4) h.hu (h.gl hg).1 (h.bl.free _ (by simp)) (h.gl g1).1 (h.bl.free _ (by simp)) (h.gl g2).1 (h.bl.free _ (by simp)) (h.gl g3).1 (h.bl.free _ (by simp)) (not_true s1) (not_true s2) (aw_cons (not_true s1) (hev a) (aw_cons (not_true s2) (hev b) aw_nil))
          · exact ew_bot
        split
        · rename_i a ha
          obtain ⟨p2, q2, rfl, rfl⟩ := lenSetArg_ok ha
          split
          · rename_i hc2
            rw [Bool.and_eq_true, Bool.and_eq_true] at hc2
            exact ew_lenSet (h.calm hc2.2.1) (h.gl hg).1 (h.bl.free _ (by simp)) (h.gl hc2.1).1 (h.bl.free _ (by simp)) (not_true hc2.2.2) (hev a)
          · exact ew_bot
        · split
          · rename_i o apos cpos ha
            obtain ⟨rfl, rfl⟩ := sortItArg_ok ha
            split
            · rename_i hc2
              rw [Bool.and_eq_true, Bool.and_eq_true] at hc2
              exact ew_sortIt (h.calm hc2.1) (h.gl hg).1 (h.bl.free _ (by simp)) hc2.2.1 hc2.2.2 (hev o)
            · exact ew_bot
          · split
            · rename_i ha
              obtain ⟨c, φ, h1, h2, rfl, rfl⟩ := hotArg_ok ha
              split
              · rename_i hs2
                exact ew_hot (h.hot _ _ h1) h.roomH (h.hots _ _ h2) h.tk (h.gl hg).1 (h.gl hg).2 (not_true hs2) (hev _)
              · exact ew_bot
            · split
              · rename_i b a es hb
                split
                · rename_i hcb
                  exact sd_bi h hev hg hs hb hcb
                · exact ew_bot
              · exact ew_bot
  · exact ew_bot
theorem sd_meth2 (h : CtxOk C k X E) (hev : ∀ e, EW X E e (r.e C e)) {o : Expr} {m : Str} {apos cpos : Pos} {args : List Expr} {t : MT} (hs : noStar args = true) (hb : notCall0 o = true) (hl : (apos.endLine == cpos.line) = true) (hn : args.length < 30) (ht : mtOf2 m args.length = some t) :
    EW X E (.Call (.Attribute o m apos) args [] cpos) (wM (mtSem t).1 (mtSem t).2 (r.e C o) (argsSem (r.e C) args)) := by
  unfold mtOf2 at ht
  have two : ∀ {n}, args.length = n + 1 → ∃ a es, args = a :: es := fun {n} e => by cases args with
    | nil => cases e
    | cons a es => exact ⟨a, es, rfl⟩
  split at ht
  · rename_i hx; cases ht; obtain ⟨rfl, hx⟩ := hx; obtain ⟨a, es, rfl⟩ := two hx
    exact ew_bm PySem.F.plainAttrs_list PySem.F.slot_list_index PySem.F.type_list_index mt_index good_index (hev o) (sd_args hev hs) hb hl hs hn
  split at ht
  · rename_i hx; cases ht; obtain ⟨rfl, hx⟩ := hx; obtain ⟨a, es, rfl⟩ := two hx
    exact ew_bm PySem.F.plainAttrs_list PySem.F.slot_list_count PySem.F.type_list_count mt_countK good_count (hev o) (sd_args hev hs) hb hl hs hn
  split at ht
  · rename_i hx; cases ht; obtain ⟨rfl, hx⟩ := hx; obtain ⟨a, es, rfl⟩ := two hx
    exact ew_bm PySem.F.plainAttrs_dict PySem.F.slot_dict_setdefault PySem.F.type_dict_setdefault mt_setdef good_setdef (hev o) (sd_args hev hs) hb hl hs hn
  · cases ht
theorem sd_meth1 (h : CtxOk C k X E) (hev : ∀ e, EW X E e (r.e C e)) {o : Expr} {m : Str} {apos cpos : Pos} {args : List Expr} {t : MT} (hs : noStar args = true) (hb : notCall0 o = true) (hl : (apos.endLine == cpos.line) = true) (hn : args.length < 30) (ht : mtOf m args.length = some t) :
    EW X E (.Call (.Attribute o m apos) args [] cpos) (wM (mtSem t).1 (mtSem t).2 (r.e C o) (argsSem (r.e C) args)) := by
  unfold mtOf at ht
  have two : ∀ {n}, args.length = n + 1 → ∃ a es, args = a :: es := fun {n} e => by cases args with
    | nil => cases e
    | cons a es => exact ⟨a, es, rfl⟩
  split at ht
  · rename_i hx; cases ht; obtain ⟨rfl, hx⟩ := hx; obtain ⟨a, es, rfl⟩ := two hx
    exact ew_bm PySem.F.plainAttrs_list PySem.F.slot_list_append PySem.F.type_list_append mt_append good_append (hev o) (sd_args hev hs) hb hl hs hn
  split at ht
  · rename_i hx; cases ht; obtain ⟨rfl, hx⟩ := hx; obtain ⟨a, es, rfl⟩ := two hx
    exact ew_bm PySem.F.plainAttrs_list PySem.F.slot_list_extend PySem.F.type_list_extend mt_extend good_extend (hev o) (sd_args hev hs) hb hl hs hn
  split at ht
  · rename_i hx; cases ht; obtain ⟨rfl, hx⟩ := hx; obtain rfl : args = [] := List.length_eq_zero_iff.mp hx
    exact ew_bm0 PySem.F.plainAttrs_list PySem.F.slot_list_clear PySem.F.type_list_clear mt_clear good_clear (hev o) hb hl
  split at ht
  · rename_i hx; cases ht; obtain ⟨rfl, hx⟩ := hx; obtain rfl : args = [] := List.length_eq_zero_iff.mp hx
    exact ew_bm0 PySem.F.plainAttrs_list PySem.F.slot_list_pop PySem.F.type_list_pop mt_pop good_pop (hev o) hb hl
  split at ht
  · rename_i hx; cases ht; obtain ⟨rfl, hx⟩ := hx; obtain ⟨a, es, rfl⟩ := two hx
    exact ew_bm PySem.F.plainAttrs_list PySem.F.slot_list_pop PySem.F.type_list_pop mt_popAt good_popAt (hev o) (sd_args hev hs) hb hl hs hn
  split at ht
  · rename_i hx; cases ht; obtain ⟨rfl, hx⟩ := hx; obtain ⟨a, es, rfl⟩ := two hx
    exact ew_bm PySem.F.plainAttrs_list PySem.F.slot_list_insert PySem.F.type_list_insert mt_insert good_insert (hev o) (sd_args hev hs) hb hl hs hn
  split at ht
  · rename_i hx; cases ht; obtain ⟨rfl, hx⟩ := hx; obtain ⟨a, es, rfl⟩ := two hx
    exact ew_bm PySem.F.plainAttrs_str PySem.F.slot_str_join PySem.F.type_str_join mt_join good_join (hev o) (sd_args hev hs) hb hl hs hn
  split at ht
  · rename_i hx; cases ht; obtain ⟨rfl, hx⟩ := hx; obtain ⟨a, es, rfl⟩ := two hx
    exact ew_bm PySem.F.plainAttrs_dict PySem.F.slot_dict_get PySem.F.type_dict_get (mtDGet h.hu1) good_dget (hev o) (sd_args hev hs) hb hl hs hn
  split at ht
  · rename_i hx; cases ht; obtain ⟨rfl, hx⟩ := hx; obtain ⟨a, es, rfl⟩ := two hx
    exact ew_bm PySem.F.plainAttrs_dict PySem.F.slot_dict_update PySem.F.type_dict_update mt_update good_update (hev o) (sd_args hev hs) hb hl hs hn
  exact sd_meth2 h hev hs hb hl hn ht
theorem sd_tab (h : CtxOk C k X E) (hev : ∀ e, EW X E e (r.e C e)) {x : Str} {a b : Expr} {p apos cpos : Pos} {kvs : List (Str × Int)} (hs : noStar [a, b] = true) (hb : notCall0 (.Name x p) = true) (hl : (apos.endLine == cpos.line) = true) (ht : C.tabs x = some kvs) (hg : C.glo x = true) :
    EW X E (.Call (.Attribute (.Name x p) "get" apos) [a, b] [] cpos) (wTab kvs (r.e C a) (r.e C b)) := by
  obtain ⟨ad, hm, T⟩ := h.tabs x kvs ht
  have s1 := noStar_cons hs
  have s2 := noStar_cons s1.2
  refine PE.imp (pe_kget T (pe_glob (h.gl hg).1 hm (show RelV (.ref ad) (.ref ad) from rfl) (h.gl hg).2) (hev a) (hev b) ⟨base_of hb, few_of hs (by simp), hl, ?_⟩) fun σ H Q ⟨S, env, M, Qd, Qx, ok, en, q, kk, y⟩ => ⟨S, env, M, _, Qx, ok, en, q, fun d v S1 M1 H1 q1 e1 ok1 r1 => ⟨S1, env, M1, _, Qx, ok1, en.mono e1, q1, fun d2 u S2 M2 H2 q2 e2 ok2 r2 => ?_, y.mono e1⟩, y⟩
  · rw [star_cons s1.1, star_cons s2.1]; rfl
  · cases d <;> cases d2 <;> first | exact q2.elim | skip
    exact ⟨_, _, r1.1, r2, kk _ _ S2 M2 H2 q2 (e1.trans e2) ok2 rfl⟩
theorem sd_meth (h : CtxOk C k X E) (hev : ∀ e, EW X E e (r.e C e)) {o : Expr} {m : Str} {apos cpos : Pos} {args : List Expr} : EW X E (.Call (.Attribute o m apos) args [] cpos) (methSem r C o m apos args cpos) := by
  unfold methSem
  split
  · rename_i hc
    rw [Bool.and_eq_true, Bool.and_eq_true, Bool.and_eq_true, decide_eq_true_eq] at hc
    obtain ⟨⟨⟨hs, hb⟩, hl⟩, hn⟩ := hc
    split
    · split
      · split
        · rename_i hc2
          rw [Bool.and_eq_true, decide_eq_true_eq] at hc2
          obtain ⟨rfl, hg⟩ := hc2
          exact sd_tab h hev hs hb hl (by assumption) hg
        · exact ew_bot
      · split
        · exact sd_meth1 h hev hs hb hl hn (by assumption)
        · exact ew_only hb (hev _)
    · split
      · exact sd_meth1 h hev hs hb hl hn (by assumption)
      · exact ew_only hb (hev _)
  · exact ew_bot
/-! what is gone through -/
theorem iw_bot {tg e : Expr} : IW X E tg e (fun _ _ _ _ => False) := ⟨fun _ _ _ _ _ _ ⟨_, _, _, _, _, _, _, z, _⟩ => z.elim⟩
theorem sd_iter (h : CtxOk C k X E) (hev : ∀ e, EW X E e (r.e C e)) {tg iter : Expr} : IW X E tg iter (iterSem r C tg iter) := by
  unfold iterSem
  split
  · rename_i f p args pos
    split
    · rename_i hc
      rw [Bool.and_eq_true] at hc
      obtain ⟨hgl, hd⟩ := h.gl hc.1
      split
      · rename_i a
        split
        · subst_vars
          split
          · exact iw_bot
          · rename_i hs
            have hs' : starred a = false := by revert hs; cases starred a <;> simp
            exact iw_range1 hgl (h.bl.free _ (by simp)) hs' (aw_cons hs' (hev a) aw_nil)
        · split
          · split
            · subst_vars
              split
              · split
                · exact iw_bot
                · exact iw_enumT hgl (h.bl.free _ (by simp)) rfl (aw_cons rfl (hev _) aw_nil)
              · split
                · exact iw_bot
                · rename_i hs
                  have hs' : starred a = false := by revert hs; cases starred a <;> simp
                  exact iw_enumT hgl (h.bl.free _ (by simp)) hs' (aw_cons hs' (hev a) aw_nil)
            · exact iw_it (hev _)
          · exact iw_it (hev _)
      · rename_i a b
        split
        · subst_vars
          split
          · exact iw_bot
          · rename_i hs
            rw [Bool.or_eq_true, not_or] at hs
            have h1 : starred a = false := by have := hs.1; revert this; cases starred a <;> simp
            have h2 : starred b = false := by have := hs.2; revert this; cases starred b <;> simp
            exact iw_range2 hgl (h.bl.free _ (by simp)) h1 h2 (aw_cons h1 (hev a) (aw_cons h2 (hev b) aw_nil))
        · split
          · split
            · subst_vars
              split
              · exact iw_bot
              · rename_i hs
                rw [Bool.or_eq_true, not_or] at hs
                have h1 : starred a = false := by have := hs.1; revert this; cases starred a <;> simp
                have h2 : starred b = false := by have := hs.2; revert this; cases starred b <;> simp
                exact iw_zipA hgl (h.bl.free _ (by simp)) h1 h2 (aw_cons h1 (hev a) (aw_cons h2 (hev b) aw_nil))
            · exact iw_it (hev _)
          · exact iw_it (hev _)
      · exact iw_it (hev _)
    · exact iw_it (hev _)
  · exact iw_it (hev _)
end
end FL
set_option Elab.async false
set_option linter.all false
set_option maxRecDepth 100000
set_option maxHeartbeats 4000000
namespace FL
open PySem PySem.Spec PyProof.Rows L2 Evl
section
variable {r : Rec} {C : Ctx} {k : Nat} {X : Cx} {E : WK}
theorem folded_of {e : Expr} {env : PySem.Env} (h : isSet e = false) (x : Value) : foldedSetIterable e env x = Pure.pure x := by
  cases e <;> first | (cases h; done) | rfl
theorem lslot_get {x : Str} {i : Nat} (h : C.lslot x = some i) : C.N[i]? = some x := by
  unfold Ctx.lslot at h
  split at h
  · exact ixOf_get h
  · exact ixOf_get h
  · cases h
theorem tgNames_pgs (h : CtxOk C k X E) : ∀ {es : List Expr} {l : List (Str × Nat)}, tgNames C es = some l → PGs X es (gNames (l.map (·.2))) ∧ es.length = l.length ∧ (∀ env : PySem.Env, (assignEach es env).length = l.length ∧ (assignEach es env).findIdx? (·.1) = none)
  | [], l, e => by cases e; exact ⟨pgs_nil, rfl, fun env => ⟨rfl, rfl⟩⟩
  | a :: es, l, e => by
    cases a <;> first | (cases e; done) | skip
    rename_i x pos
    unfold tgNames at e
    cases h1 : C.lslot x with
    | none => rw [h1] at e; cases e
    | some i =>
      cases h2 : tgNames C es with
      | none => rw [h1, h2] at e; cases e
      | some l2 =>
        rw [h1, h2] at e
        cases e
        obtain ⟨p, q, z⟩ := tgNames_pgs h h2
        refine ⟨pgs_cons (h.tgt h1) p, by simp [q], fun env => ?_⟩
        obtain ⟨z1, z2⟩ := z env
        refine ⟨by simp [assignEach, z1], ?_⟩
        rw [show assignEach (.Name x pos :: es) env = (false, assign (.Name x pos) env) :: assignEach es env from rfl, List.findIdx?_cons]
        simp [z2]
/-- what a comprehension's rule asks -/
def CompOk (X : Cx) (E : WK) (elt tg iter : Expr) (ifs : List Expr) (scope : Scope) (own : Bool) (w : SE) : Prop := ∃ (ow : List (Str × Nat)) (g : TG) (asg : Sl → D → Sl → Prop) (wi : SI) (tt : ST) (te : SE), w = wLc own wi asg (ow.map (·.2)) tt te ∧ IW X E tg iter wi ∧ BlkOk X.N X.env.scope scope ow ∧
  (∀ (s : Shared) (H : Hp) (C : Addr) (cl : List (Str × Addr)) (fp : List Addr), PG (X.blk s H scope (compEnvC scope cl C X.env) fp) tg g) ∧ Tg X.K g (ow.map (·.2)) asg ∧ (∀ (s : Shared) (H : Hp) (C : Addr) (cl : List (Str × Addr)) (fp : List Addr), PTs (X.blk s H scope (compEnvC scope cl C X.env) fp) ifs (tT X.K E00 tt)) ∧
  (∀ (s : Shared) (H : Hp) (C : Addr) (cl : List (Str × Addr)) (fp : List Addr), EW (X.blk s H scope (compEnvC scope cl C X.env) fp) E00 elt te) ∧ (∀ x, foldedSetIterable iter X.env x = Pure.pure x) ∧ X.calm = true
theorem comp_ok (h : CtxOk C k X E) (hr : Sound r) {elt tg iter : Expr} {ifs : List Expr} {scope : Scope} {own : Bool} : compSem r C own elt tg iter ifs scope = wBot ∨ CompOk X E elt tg iter ifs scope own (compSem r C own elt tg iter ifs scope) := by
  unfold compSem
  split
  · rename_i ow asg tt h1 h2
    split
    · rename_i hc
      right
      rw [Bool.and_eq_true] at hc
      have hcalm := hc.1
      replace hc := hc.2
      rw [Bool.and_eq_true] at hc
      have hb := blkOk_by hc.1
      have hb2 : BlkOk X.N X.env.scope scope ow := ⟨hb.kind, hb.uniq, by rw [h.hN]; exact hb.ix, fun y hy e => by
        rcases hb.free y hy e with q | q
        · exact .inl (h.cell _ q).1
        · exact h.free _ q, by rw [h.hN]; exact hb.own⟩
      have hB := fun s H Ca cl fp => h.blk hb.kind s H Ca cl fp
      have htg : ∃ g, (∀ (s : Shared) (H : Hp) (Ca : Addr) (cl : List (Str × Addr)) (fp : List Addr), PG (X.blk s H scope (compEnvC scope cl Ca X.env) fp) tg g) ∧ Tg X.K g (ow.map (·.2)) asg := by
        cases tg <;> first | (cases h1; done) | skip
        · rename_i x p
          simp only [compTg] at h1
          split at h1
          · rename_i i hi
            cases h1
            exact ⟨_, fun s H Ca cl fp => (hB s H Ca cl fp).tgt hi, tg1 (by simp)⟩
          · cases h1
        · rename_i es n p
          simp only [compTg] at h1
          split at h1
          · rename_i l hl
            cases h1
            refine ⟨_, fun s H Ca cl fp => ?_, tgs fun i hi => hi⟩
            obtain ⟨p1, q, z⟩ := tgNames_pgs (hB s H Ca cl fp) hl
            exact pg_tup ((hB s H Ca cl fp).calm hcalm) p1 (by rw [(z _).1]; simp) (z _).2
          · cases h1
      obtain ⟨g, hg, ht⟩ := htg
      refine ⟨ow, g, asg, _, tt, _, rfl, sd_iter h (hr C k X E h).1, hb2, hg, ht, (fun s H Ca cl fp => ?_), (fun s H Ca cl fp => (hr _ k _ _ (hB s H Ca cl fp)).1 elt), (folded_of (not_true hc.2)), h.calm hcalm⟩
      match ifs, h2 with
      | [], h2 => cases h2; exact ts_none
      | [c], h2 => cases h2; exact pts_one ((hr _ k _ _ (hB s H Ca cl fp)).2 c)
    · exact .inl rfl
  · exact .inl rfl
theorem sd_comp (h : CtxOk C k X E) (hr : Sound r) {elt tg iter : Expr} {ifs : List Expr} {scope : Scope} {own : Bool} {pos : Pos} : EW X E (.ListComp elt [⟨tg, iter, ifs, 0⟩] scope pos) (compSem r C own elt tg iter ifs scope) := by
  rcases comp_ok h hr (elt := elt) (tg := tg) (iter := iter) (ifs := ifs) (scope := scope) (own := own) with q | ⟨ow, g, asg, wi, tt, te, e, hi, hb2, hg, ht, hts, hel, hs, hcl⟩
  · rw [q]; exact ew_bot
  · rw [e]; exact ew_lc hcl (by rw [h.hN]; exact h.nd) hi hb2 hg ht hts hel hs
theorem plainIx_of {b : Expr} (h : FL.plainIx b = true) : PlainIx b := by
  intro o i
  cases b <;> first | rfl | skip
  rename_i lo hi st p
  cases st <;> first | (cases h; done) | rfl
theorem isNot_plain {e : Expr} {env : PySem.Env} (h1 : ∀ a p, e ≠ .UnaryOp .Not a p) (h2 : ∀ op vs p, e ≠ .BoolOp op vs p) (h3 : ∀ a b c p, e ≠ .IfExp a b c p) (h4 : ∀ a b c p, e ≠ .Compare a b c p) : ∀ whole, isTrue e env whole = (do let v ← whole; standAt e.pos; holding [v] (truthy v)) := by
  intro whole
  cases e <;> first
    | rfl
    | (exact absurd rfl (h2 _ _ _); done)
    | (exact absurd rfl (h3 _ _ _ _); done)
    | (exact absurd rfl (h4 _ _ _ _); done)
    | skip
  rename_i op a p
  cases op <;> first
    | rfl
    | exact absurd rfl (h1 _ _)
theorem sd_opt (hev : ∀ e, EW X E e (r.e C e)) : ∀ o : Option Expr, OW X E o (optI (partSem (r.e C) o))
  | none => ow_none
  | some e => ow_some (hev e)
theorem sd_disp (hev : ∀ e, EW X E e (r.e C e)) {pos : Pos} : ∀ {ks : List (Option Expr)} {vs : List Expr} {l : List (SE × SE)}, dispSem (r.e C) ks vs = some l → PPs X pos ks vs (l.map fun p => (tE X.K E p.1, tE X.K E p.2)) ∧ ks.all (·.isSome) = true ∧ ks.length = vs.length
  | [], [], _, h => by cases h; exact ⟨pps_nil, rfl, rfl⟩
  | [], _ :: _, _, h => by cases h
  | none :: _, _, _, h => by unfold dispSem at h; cases h
  | some k :: ks, [], _, h => by cases h
  | some k :: ks, v :: vs, l, h => by
    unfold dispSem at h
    cases hr : dispSem (r.e C) ks vs with
    | none => rw [hr] at h; cases h
    | some l2 =>
      rw [hr] at h
      cases h
      obtain ⟨a, b, c⟩ := sd_disp hev (pos := pos) hr
      exact ⟨pps_cons (hev k) (hev v) a, by simpa using b, by simp [c]⟩
theorem sound_step (hr : Sound r) : Sound (evStep r) := by
  intro C k X E h
  obtain ⟨he, ht⟩ := hr C k X E h
  have A : ∀ e, EW X E e ((evStep r).e C e) := by
    intro e
    show EW X E e (stepE r C e)
    unfold stepE
    split
    · exact sd_name h
    · exact sd_const
    · split
      · exact sd_bin he (by assumption)
      · exact ew_bot
    · exact ew_not (he _)
    · exact ew_neg (he _)
    · exact sd_boolE he
    · exact ew_if (ht _) (he _) (he _)
    · exact (sd_cmp h he).1
    · split
      · exact ew_tup (sd_args he (by assumption))
      · exact ew_bot
    · split
      · exact ew_lst (sd_args he (by assumption))
      · exact ew_bot
    · exact PE.imp pe_dnewK fun σ H Q ⟨S, env, M, Qd, Qx, ok, en, q, kk, y⟩ => fun p hp => kk _ _ S _ _ (q p (ok.fresh hp)) (Ex.refl _) (ok.newD (ds := []) hp rfl (fun _ z => nomatch z)) rfl
    · split
      · rename_i hlt
        split
        · rename_i l hl
          obtain ⟨a, b, c⟩ := sd_disp he hl
          exact ew_disp a b c (by simp) (by rw [List.length_cons]; omega)
        · exact ew_bot
      · exact ew_bot
    · exact ew_cut (he _) (sd_opt he _) (sd_opt he _)
    · exact ew_rev (he _)
    · split
      · exact ew_ix (ixSub1 h.hu1) good_sub1 (plainIx_of (by assumption)) (he _) (he _)
      · exact ew_bot
    · exact sd_call h he
    · exact sd_meth h he
    · exact sd_comp h hr
    · exact ew_bot
  refine ⟨A, fun e => ?_⟩
  show TW X E e (stepT r C e)
  unfold stepT
  split
  · exact tw_not (ht _)
  · exact (sd_boolT ht).pt
  · exact tw_bot
  · exact (sd_cmp h he).2
  · rename_i h1 h2 h3 h4
    exact tw_val (isNot_plain (fun a p q => h1 a p q) (fun op vs p q => h2 op vs p q) (fun a b c p q => h3 a b c p q) (fun a b c p q => h4 a b c p q)) (he _)
theorem sound : ∀ n, Sound (ev n)
  | 0 => fun C k X E h => ⟨fun e => ew_bot, fun e => tw_bot⟩
  | n + 1 => sound_step (sound n)
end
end FL
set_option Elab.async false
set_option linter.all false
set_option maxRecDepth 100000
set_option maxHeartbeats 4000000
namespace FL
open PySem PySem.Spec PyProof.Rows L2 Evl
/-! ### a dict that is gone through is locked meanwhile -/
section
variable {K : PySem.W.Frag} {S S2 H H2 : Hp} {M : Mem}
def era (S : Hp) (p : Addr) : Hp := fun a => if a = p then none else S a
theorem era_ne {S : Hp} {p a : Addr} (h : a ≠ p) : era S p a = S a := if_neg h
theorem era_same {S : Hp} {p : Addr} : era S p p = none := if_pos rfl
def NotSq (S : Hp) (p : Addr) : Prop := ∃ od vs, S p = some (.frz od (.dK vs))
mutual
theorem Rep.era {p : Addr} (hp : NotSq S p) : ∀ {d : D} {v : V}, Rep K S d v → Rep K (era S p) d v
  | .non, _, h => h
  | .bl _, _, h => h
  | .int _, _, h => h
  | .str _, _, h => h
  | .ptr _, _, h => h
  | .scr _, _, ⟨a, e1, h1⟩ => by
    refine ⟨a, e1, ?_⟩
    obtain ⟨od, vs, hp⟩ := hp
    rcases h1 with h1 | h1
    · left
      rcases h1 with h1 | ⟨o, h1⟩
      · exact .inl (by rw [era_ne (by rintro rfl; rw [hp] at h1; cases h1)]; exact h1)
      · exact .inr ⟨o, by rw [era_ne (by rintro rfl; rw [hp] at h1; cases h1)]; exact h1⟩
    · exact .inr h1
  | .tup _, _, ⟨a, xs, e1, h1, h2⟩ => by
    refine ⟨a, xs, e1, ?_, RepL.era hp h2⟩
    obtain ⟨od, vs, hp⟩ := hp
    rcases h1 with h1 | h1
    · left
      rcases h1 with h1 | ⟨o, h1⟩
      · exact .inl (by rw [era_ne (by rintro rfl; rw [hp] at h1; cases h1)]; exact h1)
      · exact .inr ⟨o, by rw [era_ne (by rintro rfl; rw [hp] at h1; cases h1)]; exact h1⟩
    · exact .inr h1
  | .lst _, _, ⟨a, xs, e1, h1, h2⟩ => by
    refine ⟨a, xs, e1, ?_, RepL.era hp h2⟩
    obtain ⟨od, vs, hp⟩ := hp
    rw [era_ne (by rintro rfl; rw [hp] at h1; cases h1)]; exact h1
theorem RepL.era {p : Addr} (hp : NotSq S p) : ∀ {ds : List D} {xs : List V}, RepL K S ds xs → RepL K (era S p) ds xs
  | [], _, h => h
  | _ :: _, _, ⟨x, r, e1, h1, h2⟩ => ⟨x, r, e1, Rep.era hp h1, RepL.era hp h2⟩
end
theorem RepKV.era {α : Type} {p : Addr} (hp : NotSq S p) : ∀ {kvs : List (α × D)} {vs : List (α × V)}, RepKV K S kvs vs → RepKV K (era S p) kvs vs
  | [], _, h => h
  | _ :: _, _, ⟨x, r, e1, h1, h2⟩ => ⟨x, r, e1, h1.era hp, RepKV.era hp h2⟩
theorem HasO.era {p a : Addr} {m : MO} {u : HO} (hp : NotSq S p) (hne : a ≠ p) (h : HasO K S H a m) : HasO K (era S p) (upd H p u) a m := by
  have h1 : (FL.era S p) a = S a := era_ne hne
  have h2 : upd H p u a = H a := upd_ne hne
  cases m with
  | ml ds => obtain ⟨q1, vs, q2, q3⟩ := h; exact ⟨h1.trans q1, vs, h2.trans q2, q3.era hp⟩
  | well => obtain ⟨q1, x, y, c, q2, q3⟩ := h; exact ⟨h1.trans q1, x, y, c, h2.trans q2, q3⟩
  | md kvs => obtain ⟨q1, vs, q2, q3, q4⟩ := h; exact ⟨h1.trans q1, vs, h2.trans q2, q3.era hp, q4⟩
  | lk kvs => obtain ⟨od, vs, q1, q2, q3, q4⟩ := h; exact ⟨od, vs, h1.trans q1, h2.trans q2, q3.era hp, q4⟩
  | ins C dx fs => obtain ⟨q1, vs, q2, q3⟩ := h; exact ⟨h1.trans q1, vs, h2.trans q2, q3.era hp⟩
  | ex c => exact fun z => h (h2.symm.trans z)
theorem EnvR.era {p : Addr} (hp : NotSq S p) : ∀ {env : Sl} {σ : L2.St}, EnvR K S env σ → EnvR K (era S p) env σ
  | [], [], _ => trivial
  | [], _ :: _, h => h.elim
  | _ :: _, [], h => h.elim
  | s :: r, o :: t, ⟨h1, h2⟩ => ⟨fun d q => let ⟨v, a, b⟩ := h1 d q; ⟨v, a, b.era hp⟩, EnvR.era hp h2⟩
end
@[simp ↓] def unlkP (a : Addr) (kvs : List (Key × D)) (P : Out → Prop) : Out → Prop
  | .nx e M => M a = some (.lk kvs) ∧ P (.nx e (put M a (.md kvs)))
  | .bk e M => M a = some (.lk kvs) ∧ P (.bk e (put M a (.md kvs)))
  | .ct e M => M a = some (.lk kvs) ∧ P (.ct e (put M a (.md kvs)))
  | .rt d M => M a = some (.lk kvs) ∧ P (.rt d (put M a (.md kvs)))
  | .xx _ _ _ => False
/-- the statement runs while the dict that slot i points to is locked -/
@[simp ↓] def sLock (i : Nat) (w : SS) : SS := fun env M P => ∃ a kvs, env[i]? = some (some (.ptr a)) ∧ M a = some (.md kvs) ∧ w env (put M a (.lk kvs)) (unlkP a kvs P)
section
variable {X : Cx} {E : WK} {st : Stmt} {w w1 w2 : SS}
theorem sw_lock {i : Nat} (h : SW X E st w) : SW X E st (sLock i w) := by
  refine PS.imp (ps_lock h) fun Dn σ H ⟨S, env, M, P, ok, en, ⟨a, kvs, hi, hm, q⟩, k⟩ => ?_
  obtain ⟨hS, vs, hv, r, hk⟩ := ok.own a _ hm
  refine ⟨a, .dK vs, hv, trivial, fun od => ?_⟩
  have e1 : Ex S (upd S a (.frz od (.dK vs))) := Ex.new hS
  have ok1 : Ok X.K (upd S a (.frz od (.dK vs))) (put M a (.lk kvs)) (upd H a (.frz od (.dK vs))) := by
    refine ⟨fun b o z => ?_, fun b m z => ?_⟩
    · by_cases hb : b = a
      · subst hb; rw [upd_same] at z ⊢; exact z
      · rw [upd_ne hb] at z ⊢; exact ok.ex b o z
    · by_cases hb : b = a
      · subst hb; rw [put_same] at z; cases z; exact ⟨od, vs, upd_same, upd_same, r.mono e1, hk⟩
      · rw [put_ne hb] at z
        exact (ok.own b m z).keep e1 (fun o q => by rw [upd_ne hb]; exact q) fun q1 q2 => absurd q2 (by rw [upd_ne hb] at q1; exact q1)
  refine ⟨_, env, _, _, ok1, en.mono e1, q, fun o po => ?_⟩
  have back : ∀ (S2 : Hp) (M' : Mem) (H2 : Hp), M' a = some (.lk kvs) → Ex (upd S a (.frz od (.dK vs))) S2 → Ok X.K S2 M' H2 →
      NotSq S2 a ∧ H2 a = some (.frz od (.dK vs)) ∧ Ex S (FL.era S2 a) ∧ Ok X.K (FL.era S2 a) (put M' a (.md kvs)) (upd H2 a (.dK vs)) := fun S2 M' H2 hM e2 ok2 => by
    have hS2 : S2 a = some (.frz od (.dK vs)) := e2 _ _ upd_same
    have hn : NotSq S2 a := ⟨od, vs, hS2⟩
    have hH2 := ok2.ex _ _ hS2
    have hkd : RepKV X.K S2 kvs vs := by
      obtain ⟨od', vs', q1, q2, q3, _⟩ := ok2.own a _ hM
      rw [hS2] at q1
      cases q1
      exact q3
    refine ⟨hn, hH2, fun b o z => ?_, fun b o z => ?_, fun b m z => ?_⟩
    · have hb : b ≠ a := by rintro rfl; rw [hS] at z; cases z
      rw [era_ne hb]
      exact e2 b o (by rw [upd_ne hb]; exact z)
    · have hb : b ≠ a := by rintro rfl; rw [era_same] at z; cases z
      rw [upd_ne hb]
      exact ok2.ex b o (by rw [era_ne hb] at z; exact z)
    · by_cases hb : b = a
      · subst hb; rw [put_same] at z; cases z; exact ⟨era_same, vs, upd_same, hkd.era hn, hk⟩
      · rw [put_ne hb] at z; exact (ok2.own b m z).era hn hb
  cases o with
  | nx env' M' => exact fun σ' S2 H2 e2 ok2 en2 => let ⟨q1, q2, q3, q4⟩ := back S2 M' H2 po.1 e2 ok2; ⟨q2, k _ po.2 σ' _ _ q3 q4 (en2.era q1)⟩
  | bk env' M' => exact fun σ' S2 H2 e2 ok2 en2 => let ⟨q1, q2, q3, q4⟩ := back S2 M' H2 po.1 e2 ok2; ⟨q2, k _ po.2 σ' _ _ q3 q4 (en2.era q1)⟩
  | ct env' M' => exact fun σ' S2 H2 e2 ok2 en2 => let ⟨q1, q2, q3, q4⟩ := back S2 M' H2 po.1 e2 ok2; ⟨q2, k _ po.2 σ' _ _ q3 q4 (en2.era q1)⟩
  | rt d M' => exact fun v S2 H2 e2 ok2 rd => let ⟨q1, q2, q3, q4⟩ := back S2 M' H2 po.1 e2 ok2; ⟨q2, k _ po.2 v _ _ q3 q4 (rd.era q1)⟩
  | xx c env' M' => exact po.elim
def sOr (w1 w2 : SS) : SS := fun env M P => w1 env M P ∨ w2 env M P
theorem sw_or (h1 : SW X E st w1) (h2 : SW X E st w2) : SW X E st (sOr w1 w2) := by
  refine ⟨fun pins s σ H Dn I ⟨S, env, M, P, ok, en, q, k⟩ => ?_⟩
  rcases q with q | q
  · exact h1.run pins s σ H Dn I ⟨S, env, M, P, ok, en, q, k⟩
  · exact h2.run pins s σ H Dn I ⟨S, env, M, P, ok, en, q, k⟩
theorem SW.imp (h : SW X E st w1) (g : ∀ env M P, w2 env M P → w1 env M P) : SW X E st w2 := PS.imp h fun Dn σ H ⟨S, env, M, P, ok, en, q, k⟩ => ⟨S, env, M, P, ok, en, g _ _ _ q, k⟩
end
/-- for .. in a name: a dict is locked meanwhile -/
@[simp ↓] def lockIt (i : Nat) (w : SS) : SS := fun env M P => match env[i]? with
  | some (some (.ptr a)) => (match M a with
    | some (.md _) => sLock i w env M P
    | _ => w env M P)
  | _ => w env M P
theorem lockIt_or {i : Nat} {w : SS} {env : Sl} {M : Mem} {P : Out → Prop} (h : lockIt i w env M P) : sOr (sLock i w) w env M P := by
  unfold lockIt at h
  split at h
  · split at h
    · exact .inl h
    · exact .inr h
  · exact .inr h
/-! ### the semantics of statements -/
def tgSem (C : Ctx) (ev : Expr → SE) (tg : Expr) : Option Asg := match tg with
  | .Name x _ => (match C.lslot x with
    | some i => some (gSlot i)
    | none => none)
  | .Tuple es _ _ => if C.calm then (match tgNames C es with
    | some l => some (gTuple (l.map (·.2)))
    | none => none) else none
  | .Subscript o ix _ => if plainIx ix then some (gPut (ev o) (ev ix)) else none
  | _ => none
def isTup : Expr → Bool
  | .Tuple .. => true
  | _ => false
def isComp : Expr → Bool
  | .ListComp .. => true
  | .SetComp .. => true
  | .DictComp .. => true
  | _ => false
def swaps (C : Ctx) (t : Str) (pos : Pos) (e : Expr) : Bool := match e with
  | .ListComp _ _ scope _ => (match C.sc.names.lookup t with
    | some .local => true
    | _ => false) && pos.line == e.pos.line && !(scope.names.any fun (n, k) => n == t && (k == .local || k == .cell))
  | _ => false
def asgSem (r : Rec) (C : Ctx) (tg e : Expr) : SS := match tg, e with
  | .Name x p, .ListComp elt [⟨ctg, iter, ifs, 0⟩] scope pos => (match C.lslot x with
    | some i => if (C.sc.names.lookup x).isSome then sAsg (gSlot i) (compSem r C (C.own pos) elt ctg iter ifs scope) else sBot
    | none => sBot)
  | .Subscript o (.Slice lo hi none _) _, e => if isComp e then sBot else sSetCut (r.e C o) (partSem (r.e C) lo) (partSem (r.e C) hi) (r.e C e)
  | tg, e => if isComp e || (isTup tg && isTup e) then sBot else match tgSem C (r.e C) tg with
    | some g => sAsg g (r.e C e)
    | none => sBot
def forSem (r : Rec) (C : Ctx) (tg iter : Expr) (body : SS) : SS := if isSet iter || !C.calm then sBot else match tg with
  | .Subscript .. => sBot
  | tg => match tgSem C (r.e C) tg with
    | some g => (match iter with
      | .Name x _ => (match C.slot x with
        | some i => lockIt i (sFor (iterSem r C tg iter) g body)
        | none => sFor (iterSem r C tg iter) g body)
      | _ => sFor (iterSem r C tg iter) g body)
    | none => sBot
def raiseSem (C : Ctx) (x : Str) : SS := if C.calm && (C.glo x && decide (x ∈ C.excs)) then sRaise x else sBot
def trySem (C : Ctx) (blk : Ctx → List Stmt → SS) (body : List Stmt) (x : Str) (n : Option Str) (suite : List Stmt) : SS := if C.calm && (C.hot.isNone && (C.glo x && decide (x ∈ C.excs))) then (match n with
  | none => sTry (blk C body) x none (fun a c => blk (C.suite a c) suite)
  | some n => (match C.sc.names.lookup n, ixOf n C.N with
    | some .local, some i => sTry (blk C body) x (some i) (fun a c => blk (C.suite a c) suite)
    | _, _ => sBot)) else sBot
def stSem (r : Rec) (C : Ctx) (blk : Ctx → List Stmt → SS) (st : Stmt) : SS := match st with
  | .Return (some e) _ => sRet (r.e C e)
  | .Return none _ => sRetN
  | .Pass _ => sPass
  | .Break _ => sBreak
  | .Continue _ => sCont
  | .Expr e _ => if isComp e then sBot else sExpr (r.e C e)
  | .If c b o _ => sIf (r.t C c) (blk C b) (blk C o)
  | .Assign [tg] e _ => asgSem r C tg e
  | .For tg iter body [] _ => forSem r C tg iter (blk C body)
  | .Raise (some (.Call (.Name x _) [.Constant (.str _) _ _] [] _)) none _ => raiseSem C x
  | .Try body [.ExceptHandler (some (.Name x _)) n (b :: suite) _] [] [] _ => trySem C blk body x n (b :: suite)
  | _ => sBot
def evB : Nat → Ctx → List Stmt → SS
  | 0, _, _ => sBot
  | _ + 1, _, [] => sNil
  | n + 1, C, st :: rest => sSeq (stSem (ev 60) C (evB n) st) (evB n C rest)
end FL
set_option Elab.async false
set_option linter.all false
set_option maxRecDepth 100000
set_option maxHeartbeats 4000000
namespace FL
open PySem PySem.Spec PyProof.Rows L2 Evl
section
variable {r : Rec} {C : Ctx} {k : Nat} {X : Cx} {E : WK}
theorem swaps_none {e : Expr} {t : Option Expr} {l : Nat} {env : PySem.Env} (h : isComp e = false) : swapsWith e t l env = Pure.pure false := by
  cases e <;> first | (cases h; done) | rfl
theorem swapped_none {tg e : Expr} {env : PySem.Env} (h : (FL.isTup tg && FL.isTup e) = false) (h2 : ∀ es p, tg ≠ .List es p) : swappedStores [tg] e env = Pure.pure none := by
  cases tg <;> first
    | rfl
    | (exact absurd rfl (h2 _ _); done)
    | (cases e <;> first | (cases h; done) | rfl)
theorem assign_sub {o ix : Expr} {pos : Pos} {env : PySem.Env} (v : Value) (h : FL.plainIx ix = true) : assign (.Subscript o ix pos) env v = (do
      let ov ← holding [v] (eval o env)
      let iv ← holding [v, ov] (eval ix env)
      standAt pos
      holding [v, ov, iv] (setItem ov iv v)
      release [v, ov, iv] []) := by
  cases ix <;> first
    | rfl
    | (rename_i lo hi st p; cases st <;> first | (cases h; done) | rfl)
theorem sd_tg (h : CtxOk C k X E) (hev : ∀ e, EW X E e (r.e C e)) {tg : Expr} {g : Asg} (e : tgSem C (r.e C) tg = some g) : GW X E tg g ∧ (assignEach [tg] X.env).map (·.2) = [assign tg X.env] ∧ ∀ es p, tg ≠ .List es p := by
  cases tg <;> first | (cases e; done) | skip
  · rename_i o ix pos
    simp only [tgSem] at e
    split at e
    · rename_i hp
      cases e
      exact ⟨gw_sub h.hu1 (hev o) (hev ix) fun v => assign_sub v hp, rfl, fun _ _ z => nomatch z⟩
    · cases e
  · rename_i x pos
    simp only [tgSem] at e
    split at e
    · rename_i i hi
      cases e
      exact ⟨gw_slot (h.tgt hi), rfl, fun _ _ z => nomatch z⟩
    · cases e
  · rename_i es n pos
    simp only [tgSem] at e
    split at e
    · rename_i hcl
      split at e
      case h_2 => cases e
      rename_i l hl
      cases e
      obtain ⟨p, q, z⟩ := tgNames_pgs h hl
      exact ⟨gw_tuple (pg_tup (h.calm hcl) p (by rw [(z X.env).1]; simp) (z X.env).2), rfl, fun _ _ z => nomatch z⟩
    · cases e
theorem sd_asg (h : CtxOk C k X E) (hr : Sound r) {tg e : Expr} {pos : Pos} : SW X E (.Assign [tg] e pos) (asgSem r C tg e) := by
  obtain ⟨he, ht⟩ := hr C k X E h
  unfold asgSem
  split
  · rename_i x p elt ctg iter ifs scope cpos
    split
    · rename_i i hi
      split
      · have hN : X.N.Nodup := by rw [h.hN]; exact h.nd
        rcases comp_ok h hr (elt := elt) (tg := ctg) (iter := iter) (ifs := ifs) (scope := scope) (own := C.own cpos) with q | ⟨ow, g, asg, wi, tt, te, eq, hi2, hb2, hg, ht2, hts, hel, hs, hcl⟩
        · rw [q]; exact PS.imp (sw_bot (E := E)) fun Dn σ H ⟨S, env, M, P, ok, en, q, k⟩ => q.elim
        · rw [eq]
          have hsw : swapsWith (.ListComp elt [⟨ctg, iter, ifs, 0⟩] scope cpos) (some (.Name x p)) pos.line X.env = Pure.pure (X.env.blockKind == .function && X.env.kindOf x == some .local && p.line == cpos.line && !(scope.names.any fun (n, k) => n == x && (k == .local || k == .cell))) := rfl
          cases hb : (X.env.blockKind == .function && X.env.kindOf x == some .local && p.line == cpos.line && !(scope.names.any fun (n, k) => n == x && (k == .local || k == .cell))) with
          | true =>
            rw [hb] at hsw
            rw [Bool.and_eq_true, Bool.and_eq_true, Bool.and_eq_true] at hb
            exact sw_setLc hcl hN (by rw [h.hN]; exact lslot_get hi) (eq_of_beq hb.1.1.2) hsw hi2 hb2 hg ht2 hts hel hs
          | false =>
            rw [hb] at hsw
            exact sw_asg (ew_lc hcl hN hi2 hb2 hg ht2 hts hel hs) (gw_slot (h.tgt hi)) hsw rfl rfl
      · exact sw_bot
    · exact sw_bot
  · split
    · exact sw_bot
    · rename_i hc
      exact sw_setCut (he _) (sd_opt he _) (sd_opt he _) (he _) (swaps_none (by revert hc; cases isComp e <;> simp))
  · split
    · exact sw_bot
    · rename_i hc
      rw [Bool.or_eq_true, not_or] at hc
      have h1 : isComp e = false := by have := hc.1; revert this; cases isComp e <;> simp
      have h2 : (FL.isTup tg && FL.isTup e) = false := by have := hc.2; revert this; cases (FL.isTup tg && FL.isTup e) <;> simp
      split
      · rename_i g hg
        obtain ⟨a, b, c⟩ := sd_tg h he hg
        exact sw_asg (he e) a (swaps_none h1) (swapped_none h2 c) b
      · exact sw_bot
/-- where statements stand -/
structure StOk (C : Ctx) (X : Cx) : Prop where
  hp : C.calm = true → PassesOwn (model X.prog X.w) X.A X.env X.xe
  stk : X.stack = X.env :: X.outer
  fr : X.env.frame = some X.env.locals
theorem sd_for (h : CtxOk C k X E) (hst : StOk C X) (hr : Sound r) {tg iter : Expr} {body : List Stmt} {pos : Pos} {w : SS} (hb : BW X E body w) : SW X E (.For tg iter body [] pos) (forSem r C tg iter w) := by
  obtain ⟨he, ht⟩ := hr C k X E h
  unfold forSem
  split
  · exact sw_bot
  · rename_i hs
    rw [Bool.or_eq_true, not_or] at hs
    have hs' : isSet iter = false := by have := hs.1; revert this; cases isSet iter <;> simp
    have hcl : C.calm = true := by have := hs.2; revert this; cases C.calm <;> simp
    split
    · exact sw_bot
    · split
      · rename_i g hg
        have base := sw_for (pos := pos) (hst.hp hcl) (h.calm hcl) (sd_iter h he) (sd_tg h he hg).1 hb (folded_of hs')
        split
        · split
          · exact SW.imp (sw_or (sw_lock base) base) fun env M P q => lockIt_or q
          · exact base
        · exact base
      · exact sw_bot
/-- blocks mean what they say, in each such place -/
def BlkSound (blk : Ctx → List Stmt → SS) : Prop := ∀ (C : Ctx) (k : Nat) (X : Cx) (E : WK), CtxOk C k X E → StOk C X → ∀ b, BW X E b (blk C b)
theorem ctx_tr {E2 : WK} {pn : List (Addr × Obj)} {xe : Value → Shared → Prop} (h : CtxOk C k X E) (hn : C.hot = none) (tk : L2N.Takes (X.tr pn xe) fun c d σ H => E2 σ c d H) : CtxOk C k (X.tr pn xe) E2 :=
  ⟨h.hN, h.nd, h.calm, h.bk, h.loc, h.cell, h.free, h.glo, h.room, h.roomH, tk, h.fns, h.consts, h.tabs, h.bl, h.excs, h.hots, fun a c e => by rw [hn] at e; cases e⟩
theorem ctx_suite {a : Addr} {oe : Obj} {c : Str} {pn : List (Addr × Obj)} (h : CtxOk C k X E) (okc : OkX X.K c) (hz : L2N.Zn (exv X.K c) none oe) (hv : ∃ vs, oe.data = .fields vs) : CtxOk (C.suite a c) k (X.suite a ((a, oe) :: pn)) EF :=
  ⟨h.hN, h.nd, fun e => (by cases e), h.bk, h.loc, h.cell, h.free, h.glo, fun e => (by cases e), ⟨h.roomH.dp, h.roomH.un⟩, fun u s' ⟨_, _, _, _, _, _, _, _, _, _, _, _, _, _, _, _, z⟩ => z.elim, h.fns, h.consts, h.tabs, h.bl, h.excs, h.hots,
    fun a' c' e => by
      cases e
      obtain ⟨vs, hv⟩ := hv
      exact ⟨okc, oe, List.mem_cons_self, ⟨rfl, vs, hv, hz.2.2 vs hv⟩, hz, vs, hv⟩⟩
theorem sd_st (h : CtxOk C k X E) (hst : StOk C X) (hr : Sound r) {blk : Ctx → List Stmt → SS} (hb : BlkSound blk) {st : Stmt} : SW X E st (stSem r C blk st) := by
  obtain ⟨he, ht⟩ := hr C k X E h
  unfold stSem
  split
  · exact sw_ret (he _)
  · exact sw_retN
  · exact sw_pass
  · exact sw_break
  · exact sw_cont
  · split
    · exact sw_bot
    · rename_i hc
      exact sw_expr (he _) (swaps_none (by revert hc; cases isComp _ <;> simp))
  · exact sw_if (ht _) (hb C k X E h hst _) (hb C k X E h hst _)
  · exact sd_asg h hr
  · exact sd_for h hst hr (hb C k X E h hst _)
  · unfold raiseSem
    split
    · rename_i hc
      rw [Bool.and_eq_true, Bool.and_eq_true, decide_eq_true_eq] at hc
      obtain ⟨_, okx, hm⟩ := h.excs _ hc.2.2
      exact sw_raise (h.calm hc.1) h.tk (h.gl hc.2.1).1 (h.gl hc.2.1).2 hm okx
    · exact sw_bot
  · rename_i body x _ n b suite _ _
    unfold trySem
    split
    · rename_i hc
      rw [Bool.and_eq_true, Bool.and_eq_true, Bool.and_eq_true, decide_eq_true_eq, Option.isNone_iff_eq_none] at hc
      obtain ⟨hcl, hhot, hg, hx⟩ := hc
      obtain ⟨hxn, okx, hm⟩ := h.excs _ hx
      have hbody : ∀ (E2 : WK) (pn : List (Addr × Obj)) (xe : Value → Shared → Prop), L2N.Takes (X.tr pn xe) (fun c d σ H => E2 σ c d H) → PassesOwn (model X.prog X.w) X.A X.env xe → BW (X.tr pn xe) E2 body (blk C body) := fun E2 pn xe t1 t2 =>
        hb C k _ E2 (ctx_tr h hhot t1) ⟨fun _ => t2, hst.stk, hst.fr⟩ body
      have hsuite : ∀ (a : Addr) (oe : Obj) (c : Str) (pn : List (Addr × Obj)), OkX X.K c → L2N.Zn (exv X.K c) none oe → (∃ vs, oe.data = .fields vs) → BW (X.suite a ((a, oe) :: pn)) EF (b :: suite) (blk (C.suite a c) (b :: suite)) := fun a oe c pn o1 z1 v1 =>
        hb _ k _ EF (ctx_suite h o1 z1 v1) ⟨fun e => (by cases e), hst.stk, hst.fr⟩ _
      split
      · exact sw_tryOnly hst.stk hst.fr (h.gl hg).1 (h.gl hg).2 hm hxn okx h.tk hbody hsuite
      · split
        · rename_i i hl hi
          refine sw_tryAs (i := i) hst.stk hst.fr (by rw [h.hN]; exact h.nd) (by rw [h.hN]; exact ixOf_get hi) (h.loc _ hl) (h.gl hg).1 (h.gl hg).2 hm hxn okx h.tk hbody hsuite
        · exact sw_bot
    · exact sw_bot
  · exact sw_bot
theorem sd_blk : ∀ n : Nat, BlkSound (evB n)
  | 0 => fun C k X E h hst b => ⟨fun _ _ _ _ _ _ ⟨_, _, _, _, _, _, z, _⟩ => z.elim⟩
  | n + 1 => fun C k X E h hst b => by
    cases b with
    | nil => exact bw_nil
    | cons st rest => exact bw_cons (sd_st h hst (sound 60) (sd_blk n)) (sd_blk n C k X E h hst rest)
end
/-- a def does what its text says -/
def defSem (C : Ctx) (body : List Stmt) : Fn := defW C.N (evB 200 C body)
/-- what the module holds, for its defs -/
structure ModOk (P : Program) (w : World) (K : PySem.W.Frag) (mg : Str → Option Value) (base : Heap) (k : Nat) (C : Ctx) : Prop where
  fns : ∀ x n g, C.fns x = some (n, g) → Has P w K mg base x k n g
  consts : ∀ x d, C.consts x = some d → ∃ v u, mg x = some u ∧ RelV v u ∧ ∀ S, Rep K S d v
  tabs : ∀ x kvs, C.tabs x = some kvs → ∃ a, mg x = some (.ref a) ∧ KTab K w a kvs
  bl : Bl mg
  excs : ∀ x ∈ C.excs, x ∈ exNames ∧ OkX K x ∧ mg x = some (exv K x)
  hots : ∀ f φ, C.hots f = some φ → HasE P w K mg base f k φ
theorem ctx_def {P : Program} {w : World} {K : PySem.W.Frag} {mg : Str → Option Value} {base : Heap} {x : Str} {st : Stmt} {N ps : List Str} {k : Nat} {C : Ctx} (S : FnScope N ps (defScope st)) (hN : C.N = N) (hsc : C.sc = defScope st) (hm : ModOk P w K mg base k C) (hhot : C.hot = none)
    (f : Addr) (cdv : Value) (A : Around) (outer : List Env) (s : Shared) (H : Hp) (E : XK) (hroom : Room k (A.deeper (envOfC x (defScope st) s.heap.objs.size f cdv))) : CtxOk C k (cxOf (L2N.CX P w) P w K mg base N x (defScope st) f cdv A outer s H E) (fun _ => E) ∧ StOk C (cxOf (L2N.CX P w) P w K mg base N x (defScope st) f cdv A outer s H E) := by
  refine ⟨⟨hN.symm, by rw [hN]; exact S.nd, fun _ => rfl, ?_, fun x e => ?_, fun x e => ⟨?_, rfl⟩, fun x e => ?_, fun x e => ?_, fun _ => hroom, L2H.roomH_of hroom, L2N.takes_of rfl rfl rfl rfl, hm.fns, hm.consts, hm.tabs, hm.bl, hm.excs, hm.hots, fun a c e => by rw [hhot] at e; cases e⟩, ⟨fun _ => passes_of rfl, rfl, rfl⟩⟩
  · show (if (defScope st).kind.isAnnotationScope then ScopeKind.function else (defScope st).kind) = _
    rw [S.kind]; rfl
  · rw [hsc] at e; exact e
  · rw [hsc] at e; exact e
  · rw [hsc] at e; exact .inr e
  · rw [hsc] at e; exact e
theorem has_def {P : Program} {w : World} {K : PySem.W.Frag} {mg : Str → Option Value} {base : Heap} {x : Str} {st : Stmt} {N ps : List Str} {k n : Nat} {C : Ctx} (h : Df K mg x st) (S : FnScope N ps (defScope st)) (b : Bnd x st ps) (hn : ps.length = n) (hN : C.N = N) (hsc : C.sc = defScope st)
    (hm : ModOk P w K mg base k C) (hhot : C.hot = none := by rfl) : Has P w K mg base x (k + 1) n (defSem C (defBody st)) := by
  have hh := hasM (P := P) (w := w) (base := base) (k := k) (ws := evB 200 C (defBody st)) h S b hn fun f cdv A outer s H E hroom => ?_
  · unfold defSem; rw [hN]; exact hh
  · obtain ⟨c1, c2⟩ := ctx_def S hN hsc hm hhot f cdv A outer s H E hroom
    exact sd_blk 200 _ _ _ _ c1 c2 _
/-- .. where it is called with the handled exception -/
theorem hasE_def {P : Program} {w : World} {K : PySem.W.Frag} {mg : Str → Option Value} {base : Heap} {x : Str} {st : Stmt} {N ps : List Str} {k : Nat} {C : Ctx} {φ : Str → D} (h : Df K mg x st) (S : FnScope N ps (defScope st)) (b : Bnd x st ps) (hn : ps.length = 1) (hN : C.N = N) (hsc : C.sc = defScope st)
    (hm : ModOk P w K mg base k C) (hw : ∀ a c M, defW N (evB 200 (C.suite a c) (defBody st)) [.ptr a] M (fun d M' => d = φ c ∧ M' = M) fun _ _ => False) : HasE P w K mg base x (k + 1) φ := by
  obtain ⟨f, fd, hf, F⟩ := h
  refine ⟨f, fd, ps, hf, F.kp, F.bindsN b, hn, fnE F S hn (fun a c => evB 200 (C.suite a c) (defBody st)) (fun f cdv A outer s H E p c hroom hot okc hz hv => ?_) hw⟩
  refine sd_blk 200 (C.suite p.1 c) k (L2H.cxH (L2N.CX P w) P w K mg base N x (defScope st) f cdv A outer s H E p) (fun _ => E) ⟨hN.symm, by show C.N.Nodup; rw [hN]; exact S.nd, fun e => (by cases e), ?_, fun x e => ?_, fun x e => ⟨?_, rfl⟩, fun x e => ?_, fun x e => ?_, fun e => (by cases e), hroom, L2N.takes_of rfl rfl rfl rfl, hm.fns, hm.consts, hm.tabs, hm.bl, hm.excs, hm.hots, fun a c' e => ?_⟩ ⟨fun e => (by cases e), rfl, rfl⟩ _
  · show (if (defScope st).kind.isAnnotationScope then ScopeKind.function else (defScope st).kind) = _
    rw [S.kind]; rfl
  · have e2 : C.sc.names.lookup x = some .local := e
    rw [hsc] at e2; exact e2
  · have e2 : C.sc.names.lookup x = some .cell := e
    rw [hsc] at e2; exact e2
  · have e2 : C.sc.names.lookup x = some .free := e
    rw [hsc] at e2; exact .inr e2
  · have e2 : C.sc.names.lookup x = some .globalImplicit := e
    rw [hsc] at e2; exact e2
  · cases e
    exact ⟨okc, p.2, List.mem_singleton.mpr rfl, hot, hz, hv⟩
end FL
set_option Elab.async false
set_option linter.all false
set_option maxRecDepth 100000
set_option maxHeartbeats 4000000
namespace FL
open PySem PySem.Spec PyProof.Rows L2 Evl
def tbl {α : Type} : List (Str × α) → Str → Option α
  | [], _ => none
  | p :: r, x => if x = p.1 then some p.2 else tbl r x
theorem tbl_mem {α : Type} {x : Str} {a : α} : ∀ {l : List (Str × α)}, tbl l x = some a → (x, a) ∈ l
  | [], h => by cases h
  | p :: r, h => by
    unfold tbl at h
    split at h
    · cases h; subst_vars; exact List.mem_cons_self
    · exact List.mem_cons_of_mem _ (tbl_mem h)
/-! ### data without pointers -/
@[simp] theorem deref_tup {M : Mem} {ds : List D} : deref M (.tup ds) = .tup ds := rfl
@[simp] theorem deref_lst {M : Mem} {ds : List D} : deref M (.lst ds) = .lst ds := rfl
@[simp] theorem deref_int {M : Mem} {i : Int} : deref M (.int i) = .int i := rfl
@[simp] theorem deref_str {M : Mem} {i : Str} : deref M (.str i) = .str i := rfl
@[simp] theorem deref_bl {M : Mem} {i : Bool} : deref M (.bl i) = .bl i := rfl
@[simp] theorem viewL_lst {M : Mem} {ds : List D} : viewL M (.lst ds) = some ds := rfl
@[simp] theorem viewL_tup {M : Mem} {ds : List D} : viewL M (.tup ds) = none := rfl
@[simp] theorem viewL_str {M : Mem} {ds : Str} : viewL M (.str ds) = none := rfl
@[simp] theorem viewL_int {M : Mem} {ds : Int} : viewL M (.int ds) = none := rfl
@[simp] theorem viewL_bl {M : Mem} {ds : Bool} : viewL M (.bl ds) = none := rfl
@[simp] theorem viewL_non {M : Mem} : viewL M .non = none := rfl
@[simp] theorem viewL_scr {M : Mem} {ns : List Int} : viewL M (.scr ns) = none := rfl
@[simp] theorem viewD_lst {M : Mem} {ds : List D} : viewD M (.lst ds) = none := rfl
@[simp] theorem viewD_tup {M : Mem} {ds : List D} : viewD M (.tup ds) = none := rfl
@[simp] theorem viewD_str {M : Mem} {ds : Str} : viewD M (.str ds) = none := rfl
@[simp] theorem viewD_scr {M : Mem} {ds : List Int} : viewD M (.scr ds) = none := rfl
theorem viewL_ptr {M : Mem} {a : Addr} {ds : List D} (h : M a = some (.ml ds)) : viewL M (.ptr a) = some ds := by simp [viewL, h]
theorem viewD_ptrL {M : Mem} {a : Addr} {ds : List D} (h : M a = some (.ml ds)) : viewD M (.ptr a) = none := by simp [viewD, h]
theorem viewD_ptr {M : Mem} {a : Addr} {ds : List (Key × D)} (h : M a = some (.md ds)) : viewD M (.ptr a) = some ds := by simp [viewD, h]
theorem viewL_ptrD {M : Mem} {a : Addr} {ds : List (Key × D)} (h : M a = some (.md ds)) : viewL M (.ptr a) = none := by simp [viewL, h]
@[simp] theorem ite_bl {Q : QE} {M : Mem} {b c : Bool} : (if b = true then Q (.bl c) M else Q (.bl false) M) = Q (.bl (b && c)) M := by cases b <;> simp
@[simp] theorem ite_bl2 {Q : QE} {M : Mem} {b c : Bool} : (if b = true then Q (.bl true) M else Q (.bl c) M) = Q (.bl (b || c)) M := by cases b <;> simp
@[simp] theorem ite_bl3 {Q : QE} {M : Mem} {p : Prop} [Decidable p] {c : Bool} : (if p then Q (.bl c) M else Q (.bl false) M) = Q (.bl (decide p && c)) M := by by_cases h : p <;> simp [h]
@[simp] theorem ite_bl4 {Q : QE} {M : Mem} {p : Prop} [Decidable p] {c : Bool} : (if p then Q (.bl true) M else Q (.bl c) M) = Q (.bl (decide p || c)) M := by by_cases h : p <;> simp [h]
@[simp] theorem deref_non {M : Mem} : deref M .non = .non := rfl
theorem deref_pure {M : Mem} {d : D} (h : pure d = true) : deref M d = d := by cases d <;> first | rfl | (cases h; done)
@[simp] theorem pure_ptr {a : Addr} : FL.pure (.ptr a) = false := rfl
@[simp] theorem pure_scr {a : List Int} : FL.pure (.scr a) = false := rfl
@[simp] theorem pure_non : FL.pure .non = true := rfl
@[simp] theorem pure_int {i : Int} : FL.pure (.int i) = true := rfl
@[simp] theorem pure_bl {i : Bool} : FL.pure (.bl i) = true := rfl
@[simp] theorem pure_str {i : Str} : FL.pure (.str i) = true := rfl
theorem pures_all : ∀ {ds : List D}, pures ds = ds.all FL.pure
  | [] => rfl
  | d :: r => by rw [List.all_cons, ← pures_all]; rfl
@[simp] theorem pure_tup {ds : List D} : FL.pure (.tup ds) = ds.all FL.pure := pures_all
@[simp] theorem pure_lst {ds : List D} : FL.pure (.lst ds) = ds.all FL.pure := pures_all
/-- what a datum is, no pointer in sight -/
@[simp] def isTyD (t : Ty) (d : D) : Bool := match t, d with
  | .str, .str _ => true
  | .int, .int _ => true
  | .int, .bl _ => true
  | .bool, .bl _ => true
  | .tuple, .tup _ => true
  | .list, .lst _ => true
  | _, _ => false
theorem isTy_pure {M : Mem} {t : Ty} {d : D} (h : pure d = true) : isTy M t d = isTyD t d := by
  unfold isTy isTyD
  first
    | (rw [deref_pure h]; done)
    | (rw [deref_pure h]; cases t <;> cases d <;> rfl)
@[simp] theorem isTy_non {M : Mem} {t : Ty} : isTy M t .non = isTyD t .non := by cases t <;> rfl
@[simp] theorem isTy_bl {M : Mem} {t : Ty} {x : Bool} : isTy M t (.bl x) = isTyD t (.bl x) := by cases t <;> rfl
@[simp] theorem isTy_int {M : Mem} {t : Ty} {x : Int} : isTy M t (.int x) = isTyD t (.int x) := by cases t <;> rfl
@[simp] theorem isTy_str {M : Mem} {t : Ty} {x : Str} : isTy M t (.str x) = isTyD t (.str x) := by cases t <;> rfl
@[simp] theorem isTy_tup {M : Mem} {t : Ty} {x : List D} : isTy M t (.tup x) = isTyD t (.tup x) := by cases t <;> rfl
@[simp] theorem isTy_lst {M : Mem} {t : Ty} {x : List D} : isTy M t (.lst x) = isTyD t (.lst x) := by cases t <;> rfl
theorem tyOf_pure {M : Mem} {d : D} (h : pure d = true) : (tyOf (deref M d)).isSome = true := by rw [deref_pure h]; cases d <;> first | rfl | (cases h; done)
theorem wIs1_pure {M : Mem} {t : Ty} {env : Sl} {Q : QE} {X : QX} {we : SE} {d : D} (hp : pure d = true) (hw : ∀ Q, we env M Q X = Q d M) : wIs1 t we env M Q X = Q (.bl (isTyD t d)) M := by
  unfold wIs1
  rw [hw]
  simp [tyOf_pure hp, isTy_pure hp]
/-- a comprehension over data: each thing gives one -/
theorem wLc_map {wi : SI} {asg : Sl → D → Sl → Prop} {vs : List Nat} {te : SE} {env : Sl} {M : Mem} {Q : QE} {X : QX} {ds : List D} (f : D → D) (hi : ∀ R : QI, R ds (fun _ => True) M → wi env M R X) (hl : ds.length ≤ 100000)
    (he : ∀ d ∈ ds, ∃ env2, asg (wipeE env vs) d env2 ∧ ∀ (M' : Mem) (R : QE), R (f d) M' → te env2 M' R noX) (hq : Q (.lst (ds.map f)) M) : wLc false wi asg vs tTrue te env M Q X := by
  refine hi _ ⟨hl, fun a0 ha => ?_⟩
  have go : ∀ (l : List D) (acc : List D), (∀ d ∈ l, d ∈ ds) → lcEnd false a0 Q (acc ++ l.map f) (put M a0 (.ml (acc ++ l.map f))) → lcW asg vs tTrue te (fun _ => True) a0 env l acc (put M a0 (.ml acc)) (lcEnd false a0 Q) := by
    intro l
    induction l with
    | nil => intro acc _ q; rw [List.map_nil, List.append_nil] at q; exact ⟨trivial, put_same, q⟩
    | cons d r ih =>
      intro acc hm q
      obtain ⟨env2, h1, h2⟩ := he d (hm d List.mem_cons_self)
      refine ⟨trivial, env2, h1, h2 _ _ ⟨put_same, ?_⟩⟩
      rw [put_put]
      exact ih _ (fun e he => hm e (List.mem_cons_of_mem _ he)) (by rw [List.append_assoc]; exact q)
  refine go ds [] (fun d h => h) ?_
  show Q _ (erase _ a0)
  rw [erase_put ha]
  exact hq
/-- .. over a range -/
theorem wLc_rng {wi : SI} {asg : Sl → D → Sl → Prop} {vs : List Nat} {te : SE} {env : Sl} {M : Mem} {Q : QE} {X : QX} {lo : Int} {n : Nat} (f : Nat → D) (hi : ∀ R : QI, R (upFrom lo n) (fun _ => True) M → wi env M R X) (hl : n ≤ 100000)
    (he : ∀ i : Nat, i < n → ∃ env2, asg (wipeE env vs) (.int (lo + i)) env2 ∧ ∀ (M' : Mem) (R : QE), R (f i) M' → te env2 M' R noX) (hq : Q (.lst ((List.range n).map f)) M) : wLc false wi asg vs tTrue te env M Q X := by
  have e : (upFrom lo n).map (fun d => match d with | .int j => f (j - lo).toNat | _ => .non) = (List.range n).map f := by
    unfold upFrom
    rw [List.map_map]
    refine List.map_congr_left fun i _ => ?_
    show f (lo + (i : Int) - lo).toNat = f i
    congr 1; omega
  refine wLc_map (fun d => match d with | .int j => f (j - lo).toNat | _ => .non) hi (by rw [upFrom_len]; exact hl) (fun d hd => ?_) (by rw [e]; exact hq)
  unfold upFrom at hd
  obtain ⟨i, hi2, rfl⟩ := List.mem_map.mp hd
  obtain ⟨env2, h1, h2⟩ := he i (List.mem_range.mp hi2)
  refine ⟨env2, h1, fun M' R q => h2 M' R ?_⟩
  have : (lo + (i : Int) - lo).toNat = i := by omega
  rw [← this]; exact q
theorem bls_inj {l m : List Bool} (h : l.map D.bl = m.map D.bl) : l = m := (List.map_inj_right (fun x y z => by cases z; rfl)).mp h
@[simp] theorem sAll_bls {α : Type} {l : List α} {f : α → Bool} {Q : QE} {M : Mem} : sAll [.lst (l.map fun d => D.bl (f d))] M Q = Q (.bl (l.all f)) M := by
  refine propext ⟨?_, fun q => ⟨l.map f, by rw [List.map_map]; rfl, by rw [List.all_map]; exact q⟩⟩
  rintro ⟨bs, e, q⟩
  have : bs = l.map f := (bls_inj (by rw [List.map_map]; exact Option.some.inj e)).symm
  rw [this, List.all_map] at q
  exact q
@[simp] theorem sAny_bls {α : Type} {l : List α} {f : α → Bool} {Q : QE} {M : Mem} : sAny [.lst (l.map fun d => D.bl (f d))] M Q = Q (.bl (l.any f)) M := by
  refine propext ⟨?_, fun q => ⟨l.map f, by rw [List.map_map]; rfl, by rw [List.any_map]; exact q⟩⟩
  rintro ⟨bs, e, q⟩
  have : bs = l.map f := (bls_inj (by rw [List.map_map]; exact Option.some.inj e)).symm
  rw [this, List.any_map] at q
  exact q
@[simp] theorem sSum_ints {α : Type} {l : List α} {f : α → Int} {Q : QE} {M : Mem} : sSum [.lst (l.map fun d => D.int (f d))] M Q = Q (.int (l.map f).sum) M := by
  refine propext ⟨?_, fun q => ⟨l.map f, by rw [List.map_map]; rfl, q⟩⟩
  rintro ⟨bs, e, q⟩
  have : bs = l.map f := by
    have h : (l.map f).map D.int = bs.map D.int := by rw [List.map_map]; exact Option.some.inj e
    exact ((List.map_inj_right (fun x y z => by cases z; rfl)).mp h).symm
  rw [this] at q
  exact q
@[simp] theorem flatD_str {a : Str} : flatD (.str a) = true := rfl
@[simp] theorem flatD_int {a : Int} : flatD (.int a) = true := rfl
@[simp] theorem flatD_bl {a : Bool} : flatD (.bl a) = true := rfl
@[simp] theorem flatD_non : flatD .non = true := rfl
@[simp] theorem inD_nil {d : D} : inD d [] = false := rfl
@[simp] theorem inD_cons {d e : D} {r : List D} : inD d (e :: r) = (eqD e d || inD d r) := rfl
@[simp] theorem viewL_put {M : Mem} {a : Addr} {xs : List D} : viewL (put M a (.ml xs)) (.ptr a) = some xs := by simp [viewL]
@[simp] theorem viewD_put {M : Mem} {a : Addr} {xs : List D} : viewD (put M a (.ml xs)) (.ptr a) = none := by simp [viewD]
@[simp] theorem viewL_putD {M : Mem} {a : Addr} {xs : List (Key × D)} : viewL (put M a (.md xs)) (.ptr a) = none := by simp [viewL]
@[simp] theorem viewD_putD {M : Mem} {a : Addr} {xs : List (Key × D)} : viewD (put M a (.md xs)) (.ptr a) = some xs := by simp [viewD]
@[simp] theorem deref_put {M : Mem} {a : Addr} {xs : List D} : deref (put M a (.ml xs)) (.ptr a) = .lst xs := by simp [deref]
theorem deref_ptr {M : Mem} {a : Addr} {xs : List D} (h : M a = some (.ml xs)) : deref M (.ptr a) = .lst xs := by simp [deref, h]
@[simp] theorem viewL_putW {M : Mem} {a : Addr} : viewL (put M a .well) (.ptr a) = none := by simp [viewL]
theorem viewL_putN {M : Mem} {a b : Addr} {m : MO} (h : b ≠ a) : viewL (put M a m) (.ptr b) = viewL M (.ptr b) := by simp [viewL, put_ne h]
theorem viewD_putN {M : Mem} {a b : Addr} {m : MO} (h : b ≠ a) : viewD (put M a m) (.ptr b) = viewD M (.ptr b) := by simp [viewD, put_ne h]
@[simp] theorem ixN_0 {n : Nat} : ixN (n + 1) 0 = some 0 := by
  unfold ixN; rw [if_pos (by omega), if_pos (by omega)]; rfl
@[simp] theorem ixN_1 {n : Nat} : ixN (n + 2) 1 = some 1 := by
  unfold ixN; rw [if_pos (by omega), if_pos (by omega)]; rfl
@[simp] theorem ixN_2 {n : Nat} : ixN (n + 3) 2 = some 2 := by
  unfold ixN; rw [if_pos (by omega), if_pos (by omega)]; rfl
theorem atI_pick {α : Type} {ds : List α} {i : Int} (h0 : 0 ≤ i) (h1 : i < (ds.length : Int)) : ∃ d ∈ ds, atI ds i = some d := by
  obtain ⟨m, rfl⟩ := Int.eq_ofNat_of_zero_le h0
  have hm : m < ds.length := by omega
  exact ⟨ds[m], List.getElem_mem hm, atI_nat (List.getElem?_eq_getElem hm)⟩
@[simp] theorem eqD_str {a b : Str} : eqD (.str a) (.str b) = decide (a = b) := by unfold eqD; rw [Bool.eq_iff_iff]; simp
@[simp] theorem eqD_int {a b : Int} : eqD (.int a) (.int b) = decide (a = b) := by unfold eqD; rw [Bool.eq_iff_iff]; simp
@[simp] theorem eqD_bl {a b : Bool} : eqD (.bl a) (.bl b) = (a == b) := rfl
@[simp] theorem eqD_lst {a b : List D} : eqD (.lst a) (.lst b) = eqDs a b := rfl
@[simp] theorem eqD_tup {a b : List D} : eqD (.tup a) (.tup b) = eqDs a b := rfl
@[simp] theorem eqDs_cons {a b : D} {r t : List D} : eqDs (a :: r) (b :: t) = (eqD a b && eqDs r t) := rfl
@[simp] theorem eqDs_nil : eqDs [] [] = true := rfl
@[simp] theorem eqDs_cn {a : D} {r : List D} : eqDs (a :: r) [] = false := rfl
@[simp] theorem eqDs_nc {a : D} {r : List D} : eqDs [] (a :: r) = false := rfl
@[simp] theorem dep_int {a : Int} : dep (.int a) = 0 := rfl
@[simp] theorem dep_str {a : Str} : dep (.str a) = 0 := rfl
@[simp] theorem dep_bl {a : Bool} : dep (.bl a) = 0 := rfl
@[simp] theorem dep_non : dep .non = 0 := rfl
@[simp] theorem dep_tup {a : List D} : dep (.tup a) = deps a + 1 := rfl
@[simp] theorem dep_lst {a : List D} : dep (.lst a) = deps a + 1 := rfl
@[simp] theorem deps_nil : deps [] = 0 := rfl
@[simp] theorem deps_cons {a : D} {r : List D} : deps (a :: r) = max (dep a) (deps r) := rfl
@[simp] theorem atI_0 {a : D} {r : List D} : atI (a :: r) 0 = some a := by
  show atI (a :: r) ((0 : Nat) : Int) = some a
  exact atI_nat rfl
@[simp] theorem atI_1 {a b : D} {r : List D} : atI (a :: b :: r) 1 = some b := by
  show atI (a :: b :: r) ((1 : Nat) : Int) = some b
  exact atI_nat rfl
@[simp] theorem atI_2 {a b c : D} {r : List D} : atI (a :: b :: c :: r) 2 = some c := by
  show atI (a :: b :: c :: r) ((2 : Nat) : Int) = some c
  exact atI_nat rfl
@[simp] theorem atI_3 {a b c d : D} {r : List D} : atI (a :: b :: c :: d :: r) 3 = some d := by
  show atI (a :: b :: c :: d :: r) ((3 : Nat) : Int) = some d
  exact atI_nat rfl
@[simp] theorem atI_4 {a b c d e : D} {r : List D} : atI (a :: b :: c :: d :: e :: r) 4 = some e := by
  show atI (a :: b :: c :: d :: e :: r) ((4 : Nat) : Int) = some e
  exact atI_nat rfl
theorem cutD_to {xs : List D} {n : Nat} : cutD xs none (some (n : Int)) = xs.take n := by
  have h1 : HT.sIx xs.length 0 none = 0 := rfl
  have h2 : HT.sIx xs.length xs.length (some (n : Int)) = min n xs.length := by rw [HT.sIx_nat]
  unfold cutD
  rw [h1, h2, List.drop_zero, Nat.sub_zero]
  rcases Nat.le_total n xs.length with h | h
  · rw [Nat.min_eq_left h]
  · rw [Nat.min_eq_right h, List.take_of_length_le h, List.take_of_length_le (Nat.le_refl _)]
@[simp] theorem cutD_to2 {xs : List D} : cutD xs none (some 2) = xs.take 2 := cutD_to (n := 2)
@[simp] theorem cutD_to1 {xs : List D} : cutD xs none (some 1) = xs.take 1 := cutD_to (n := 1)
/-- .. where it is tested -/
theorem wLc_filter {wi : SI} {asg : Sl → D → Sl → Prop} {vs : List Nat} {tt : ST} {te : SE} {env : Sl} {M : Mem} {Q : QE} {X : QX} {ds : List D} (f : D → D) (c : D → Bool) (hi : ∀ R : QI, R ds (fun _ => True) M → wi env M R X) (hl : ds.length ≤ 100000)
    (he : ∀ d ∈ ds, ∃ env2, asg (wipeE env vs) d env2 ∧ (∀ (M' : Mem) (R : Bool → Mem → Prop), R (c d) M' → tt env2 M' R noX) ∧ (c d = true → ∀ (M' : Mem) (R : QE), R (f d) M' → te env2 M' R noX)) (hq : Q (.lst ((ds.filter c).map f)) M) : wLc false wi asg vs tt te env M Q X := by
  refine hi _ ⟨hl, fun a0 ha => ?_⟩
  have go : ∀ (l : List D) (acc : List D), (∀ d ∈ l, d ∈ ds) → lcEnd false a0 Q (acc ++ (l.filter c).map f) (put M a0 (.ml (acc ++ (l.filter c).map f))) → lcW asg vs tt te (fun _ => True) a0 env l acc (put M a0 (.ml acc)) (lcEnd false a0 Q) := by
    intro l
    induction l with
    | nil => intro acc _ q; rw [List.filter_nil, List.map_nil, List.append_nil] at q; exact ⟨trivial, put_same, q⟩
    | cons d r ih =>
      intro acc hm q
      obtain ⟨env2, h1, h2, h3⟩ := he d (hm d List.mem_cons_self)
      refine ⟨trivial, env2, h1, h2 _ _ ?_⟩
      rw [List.filter_cons] at q
      cases hc : c d with
      | false => rw [hc] at q; exact ih _ (fun e he => hm e (List.mem_cons_of_mem _ he)) q
      | true =>
        rw [hc] at q
        refine h3 hc _ _ ⟨put_same, ?_⟩
        rw [put_put]
        exact ih _ (fun e he => hm e (List.mem_cons_of_mem _ he)) (by rw [List.append_assoc]; exact q)
  refine go ds [] (fun d h => h) ?_
  show Q _ (erase _ a0)
  rw [erase_put ha]
  exact hq
theorem iteI {c : Prop} [Decidable c] {A B : Prop} (h1 : c → A) (h2 : ¬c → B) : if c then A else B := by
  by_cases h : c
  · rw [if_pos h]; exact h1 h
  · rw [if_neg h]; exact h2 h
/-- more is known, all of this still -/
def Sub (M M' : Mem) : Prop := ∀ b m, M b = some m → M' b = some m
theorem Sub.refl {M : Mem} : Sub M M := fun _ _ h => h
theorem Sub.trans {M M' M2 : Mem} (h : Sub M M') (g : Sub M' M2) : Sub M M2 := fun b m q => g b m (h b m q)
theorem Sub.ext {M M' : Mem} {a : Addr} {m : MO} (h : Sub M M') (ha : M a = none) : Sub M (put M' a m) := fun b u q => by
  rw [put_ne (ne_new ha q)]; exact h b u q
theorem Sub.le {M M' : Mem} (h : Sub M M') : Le M M' := fun a m q => ⟨m, h a m q, .inl rfl⟩
theorem dropQ.sub {α : Type} {Q : α → Mem → Prop} {d : α} {M M' : Mem} (s : Sub M M') (h : Q d M) : dropQ Q d M' := ⟨M, s.le, h⟩
theorem Sub.new {M : Mem} {a : Addr} {m : MO} (h : M a = none) : Sub M (put M a m) := fun b u q => by
  rw [put_ne (ne_new h q)]; exact q
/-- a comprehension, by an invariant of what is gathered -/
theorem wLc_ind {wi : SI} {asg : Sl → D → Sl → Prop} {vs : List Nat} {tt : ST} {te : SE} {env : Sl} {M : Mem} {Q : QE} {X : QX} {ds : List D} (I : Nat → List D → Prop) (hi : ∀ R : QI, R ds (fun _ => True) M → wi env M R X) (hl : ds.length ≤ 100000) (h0 : I 0 [])
    (hs : ∀ i d acc M' (RT : QE) (RF : Mem → Prop), ds[i]? = some d → I i acc → Sub M M' → (∀ r, I (i + 1) (acc ++ [r]) → RT r M') → (I (i + 1) acc → RF M') → ∃ env2, asg (wipeE env vs) d env2 ∧ tt env2 M' (fun b M3 => if b = true then te env2 M3 RT noX else RF M3) noX)
    (hq : ∀ acc, I ds.length acc → Q (.lst acc) M) : wLc false wi asg vs tt te env M Q X := by
  refine hi _ ⟨hl, fun a0 ha => ?_⟩
  have go : ∀ (k i : Nat) (acc : List D), k = ds.length - i → i ≤ ds.length → I i acc → lcW asg vs tt te (fun _ => True) a0 env (ds.drop i) acc (put M a0 (.ml acc)) (lcEnd false a0 Q) := by
    intro k
    induction k with
    | zero =>
      intro i acc hk hi2 q
      have : i = ds.length := by omega
      subst this
      rw [List.drop_length]
      refine ⟨trivial, put_same, ?_⟩
      show Q _ (erase _ a0)
      rw [erase_put ha]
      exact hq acc q
    | succ k ih =>
      intro i acc hk hi2 q
      have hlt : i < ds.length := by omega
      rw [List.drop_eq_getElem_cons hlt]
      obtain ⟨env2, h1, h2⟩ := hs i ds[i] acc (put M a0 (.ml acc)) (fun r M4 => M4 a0 = some (.ml acc) ∧ lcW asg vs tt te (fun _ => True) a0 env (ds.drop (i + 1)) (acc ++ [r]) (put M4 a0 (.ml (acc ++ [r]))) (lcEnd false a0 Q)) (fun M3 => lcW asg vs tt te (fun _ => True) a0 env (ds.drop (i + 1)) acc M3 (lcEnd false a0 Q)) (List.getElem?_eq_getElem hlt) q (Sub.new ha)
        (fun r z => ⟨put_same, by rw [put_put]; exact ih (i + 1) _ (by omega) (by omega) z⟩) (fun z => ih (i + 1) acc (by omega) (by omega) z)
      exact ⟨trivial, env2, h1, h2⟩
  have := go ds.length 0 [] (by omega) (by omega) h0
  rwa [List.drop_zero] at this
/-- what is gone through may be any of many -/
theorem wLc_fam {own : Bool} {wi : SI} {asg : Sl → D → Sl → Prop} {vs : List Nat} {tt : ST} {te : SE} {env : Sl} {M : Mem} {Q : QE} {X : QX} (Dm : List D → Prop) (hi : ∀ R : QI, (∀ ds, Dm ds → R ds (fun _ => True) M) → wi env M R X)
    (h : ∀ ds, Dm ds → wLc own (fun _ M Q _ => Q ds (fun _ => True) M) asg vs tt te env M Q X) : wLc own wi asg vs tt te env M Q X := hi _ h
/-- .. each thing drawn -/
theorem wLc_each {wi : SI} {asg : Sl → D → Sl → Prop} {vs : List Nat} {te : SE} {env : Sl} {M : Mem} {Q : QE} {X : QX} {ds : List D} (P : D → Prop) (hi : ∀ R : QI, R ds (fun _ => True) M → wi env M R X) (hl : ds.length ≤ 100000)
    (hs : ∀ d M' (RT : QE), d ∈ ds → Sub M M' → (∀ r, P r → RT r M') → ∃ env2, asg (wipeE env vs) d env2 ∧ te env2 M' RT noX)
    (hq : ∀ acc, acc.length = ds.length → (∀ r ∈ acc, P r) → Q (.lst acc) M) : wLc false wi asg vs tTrue te env M Q X :=
  wLc_ind (fun i acc => acc.length = i ∧ ∀ r ∈ acc, P r) hi hl ⟨rfl, fun _ h => nomatch h⟩ (fun i d acc M' RT RF hd ⟨q1, q2⟩ hsub hT hF => by
    obtain ⟨env2, h1, h2⟩ := hs d M' RT (List.mem_of_getElem? hd) hsub fun r hr => hT r ⟨by simp [q1], fun z hz => by
      rcases List.mem_append.mp hz with hz | hz
      · exact q2 z hz
      · rw [List.mem_singleton.mp hz]; exact hr⟩
    exact ⟨env2, h1, h2⟩) fun acc ⟨q1, q2⟩ => hq acc q1 q2
/-! ### loops -/
theorem enumD_get {ds : List D} {i : Nat} {d : D} (h : (enumD ds)[i]? = some d) : ∃ e, ds[i]? = some e ∧ d = .tup [.int (i : Nat), e] := by
  unfold enumD pairsD at h
  rw [List.getElem?_zipWith] at h
  have hi : i < ds.length := by
    rcases Nat.lt_or_ge i ds.length with q | q
    · exact q
    · rw [List.getElem?_eq_none q] at h
      revert h; split <;> intro h <;> first | (cases h; done) | simp_all
  rw [upFrom_get hi, List.getElem?_eq_getElem hi] at h
  simp at h
  exact ⟨_, List.getElem?_eq_getElem hi, h.symm⟩
@[simp] theorem enumD_len {ds : List D} : (enumD ds).length = ds.length := by unfold enumD pairsD; rw [List.length_zipWith, upFrom_len, Nat.min_self]
/-- by an invariant: I behind so many turns -/
theorem loopW_ind {g : Asg} {body : SS} {C : Mem → Prop} {P : Out → Prop} {ds : List D} {env : Sl} {M : Mem} (I : Nat → Sl → Mem → Prop) (h0 : I 0 env M) (hC : ∀ i e m, I i e m → C m) (hend : ∀ e m, I ds.length e m → P (.nx e m))
    (hs : ∀ i d e m (K : Out → Prop), ds[i]? = some d → I i e m → (∀ e m, I (i + 1) e m → K (.nx e m)) → (∀ e m, I (i + 1) e m → K (.ct e m)) → (∀ e m, P (.nx e m) → K (.bk e m)) → (∀ d m, P (.rt d m) → K (.rt d m)) → (∀ c e m, P (.xx c e m) → K (.xx c e m)) → g e d m (fun e2 m2 => body e2 m2 K) (qX e P)) : loopW g body C ds env M P := by
  have go : ∀ k i (e : Sl) (m : Mem), k = ds.length - i → i ≤ ds.length → I i e m → loopW g body C (ds.drop i) e m P := by
    intro k
    induction k with
    | zero =>
      intro i e m hk hi q
      have : i = ds.length := by omega
      subst this
      rw [List.drop_length]
      exact ⟨hC _ _ _ q, hend _ _ q⟩
    | succ k ih =>
      intro i e m hk hi q
      have hlt : i < ds.length := by omega
      rw [List.drop_eq_getElem_cons hlt]
      exact ⟨hC _ _ _ q, hs i _ e m _ (List.getElem?_eq_getElem hlt) q (fun e m z => ih (i + 1) e m (by omega) hlt z) (fun e m z => ih (i + 1) e m (by omega) hlt z) (fun e m z => z) (fun d m z => z) fun c e m z => z⟩
  have := go ds.length 0 env M (by omega) (by omega) h0
  rwa [List.drop_zero] at this
end FL
set_option Elab.async false
set_option linter.all false
set_option maxRecDepth 100000
set_option maxHeartbeats 4000000
namespace FL
open PySem PySem.Spec PyProof.Rows L2 Evl
/-! tables of the module: texts to numbers -/
def entW (e : DictEntry) : Option (Str × Int × Int) := match e.key with
  | .str x _ => (match e.val with
    | .int i _ => some (x, e.hash, i)
    | _ => none)
  | _ => none
def tabW (K : PySem.W.Frag) (a : Addr) : Option (List (Option (Str × Int × Int))) := match K.lookup a with
  | some ⟨.type c, none, .dict es _, sl⟩ => (match decide (c = "dict") && (sl.isEmpty && !(a == sysModules)) with
    | true => some (es.toList.map entW)
    | false => none)
  | _ => none
def tabIn (P : Params) (kvs : List (Str × Int)) : List (Option (Str × Int × Int)) := kvs.map fun q => some (q.1, PyData.keyHash P q.1, q.2)
theorem entW_some {e : DictEntry} {x : Str} {h i : Int} (q : entW e = some (x, h, i)) : ∃ t1 t2, e.key = .str x t1 ∧ e.hash = h ∧ e.val = .int i t2 := by
  unfold entW at q
  split at q
  · rename_i z t hk
    split at q
    · rename_i j t2 hv
      cases q
      exact ⟨t, t2, hk, rfl, hv⟩
    · cases q
  · cases q
theorem tab_keys {P : Params} : ∀ {es : List DictEntry} {kvs : List (Str × Int)}, es.map entW = tabIn P kvs → es.map He.keyOf = He.keysIn P (kvs.map (·.1))
  | [], [], _ => rfl
  | [], _ :: _, h => by cases h
  | _ :: _, [], h => by cases h
  | e :: r, q :: t, h => by
    have h1 : entW e :: r.map entW = some (q.1, PyData.keyHash P q.1, q.2) :: tabIn P t := h
    injection h1 with h2 h3
    obtain ⟨t1, t2, k1, k2, k3⟩ := entW_some h2
    show He.keyOf e :: r.map He.keyOf = some (q.1, PyData.keyHash P q.1) :: He.keysIn P (t.map (·.1))
    rw [tab_keys h3]
    unfold He.keyOf
    rw [k1, k2]
theorem tab_find {P : Params} {z : Str} : ∀ {es : List DictEntry} {kvs : List (Str × Int)}, es.map entW = tabIn P kvs → (match es.find? (·.key.isStr z) with
      | some e => ∃ i t, kvs.lookup z = some i ∧ e.val = .int i t
      | none => kvs.lookup z = none) ∧ es.any (·.refKey) = false
  | [], [], _ => ⟨rfl, rfl⟩
  | [], _ :: _, h => by cases h
  | _ :: _, [], h => by cases h
  | e :: r, q :: t, h => by
    have h1 : entW e :: r.map entW = some (q.1, PyData.keyHash P q.1, q.2) :: tabIn P t := h
    injection h1 with h2 h3
    obtain ⟨t1, t2, k1, k2, k3⟩ := entW_some h2
    obtain ⟨i1, i2⟩ := tab_find (z := z) h3
    have e0 : (e.key.isStr z) = (q.1 == z) := by rw [k1]; rfl
    refine ⟨?_, ?_⟩
    · rw [List.find?_cons, e0, List.lookup_cons]
      by_cases hq : q.1 = z
      · have b1 : (q.1 == z) = true := by rw [hq]; exact beq_self_eq_true z
        have b2 : (z == q.1) = true := by rw [hq]; exact beq_self_eq_true z
        rw [b1, b2]
        exact ⟨q.2, t2, rfl, k3⟩
      · have b1 : (q.1 == z) = false := beq_eq_false_iff_ne.mpr hq
        have b2 : (z == q.1) = false := beq_eq_false_iff_ne.mpr fun w => hq w.symm
        rw [b1, b2]
        exact i1
    · rw [List.any_cons, i2, Bool.or_false]
      unfold DictEntry.refKey
      rw [k1]
theorem ktab_of {K : PySem.W.Frag} {w : World} {a : Addr} {kvs : List (Str × Int)} (h : tabW K a = some (tabIn w.params kvs)) : KTab K w a kvs := by
  obtain ⟨es, n, sl, hl, hm, hd⟩ : ∃ es n sl, K.lookup a = some ⟨.type "dict", none, .dict es n, sl⟩ ∧ es.toList.map entW = tabIn w.params kvs ∧ He.dicW K a = some (es.toList.map He.keyOf) := by
    unfold tabW at h
    split at h
    · rename_i c es n sl hl
      split at h
      · rename_i hb
        have hc : c = "dict" := of_decide_eq_true (Bool.and_eq_true_iff.mp hb).1
        subst hc
        refine ⟨es, n, sl, hl, Option.some.inj h, ?_⟩
        unfold He.dicW
        rw [hl]
        dsimp only
        rw [hb]
      · cases h
    · cases h
  refine ⟨He.dicW_ok (hd.trans (congrArg some (tab_keys hm))), fun z => ?_⟩
  obtain ⟨f1, f2⟩ := tab_find (z := z) hm
  unfold PySem.W.nsIn
  rw [hl]
  dsimp only
  cases hf : es.toList.find? (·.key.isStr z) with
  | some e =>
    rw [hf] at f1
    obtain ⟨i, t, e1, e2⟩ := f1
    refine ⟨some e.val, rfl, ?_⟩
    rw [e1]
    exact ⟨t, by rw [e2]⟩
  | none =>
    rw [hf] at f1
    refine ⟨none, ?_, ?_⟩
    · dsimp only
      rw [f2]; rfl
    · dsimp only at f1
      rw [f1]
/-! ### the module's exceptions -/
def okXB (K : PySem.W.Frag) (x : Str) : Bool := decide (PySem.W.nsIn K mainGlobals x = some (some (exv K x))) && (PySem.W.excIn K (He.ga K x) He.veBase "ValueError.__new__" && (PySem.W.keepIn K (exv K x) && (decide (PySem.W.subIn K (exv K x) (.type "BaseException") = some true) &&
  (decide (PySem.W.typeIn K (exv K x) = some (.type "type")) && (decide (PySem.W.findIn K (exv K x) "__getattribute__" = some (some (.builtin "BaseException.__getattribute__"))) && (decide (PySem.W.findIn K (exv K x) "__getattr__" = some none) && (PySem.W.hasDictIn K (He.ga K x) &&
  (decide (PySem.W.findIn K (exv K x) "__class__" = some (some (.builtin "object.__class__"))) && (decide (PySem.W.specialIn K (.builtin "object.__class__") "__get__" = some (some (.builtin "getset_descriptor.__get__"))) && (decide (PySem.W.takesIn K (.builtin "object.__class__") = some true) &&
  (decide (PySem.W.mroIn K (He.ga K x) (.type "object") = some true) && (exNames.all (fun y => !decide (PySem.W.nsIn K mainGlobals y = some (some (exv K y))) || (decide (PySem.W.exmOne K (exv K x) (exv K y) = some (subX x y)) && decide (PySem.W.kitOne K (exv K x) (exv K y) = some (subX x y)))) &&
  decide (PySem.W.kitOne K (exv K x) (.type "ValueError") = some true)))))))))))))
theorem okXB_ok {K : PySem.W.Frag} {x : Str} (h : okXB K x = true) : OkX K x := by
  obtain ⟨h1, h⟩ := He.ba h
  obtain ⟨h2, h⟩ := He.ba h
  obtain ⟨h3, h⟩ := He.ba h
  obtain ⟨h4, h⟩ := He.ba h
  obtain ⟨h5, h⟩ := He.ba h
  obtain ⟨h6, h⟩ := He.ba h
  obtain ⟨h7, h⟩ := He.ba h
  obtain ⟨h8, h⟩ := He.ba h
  obtain ⟨h9, h⟩ := He.ba h
  obtain ⟨h10, h⟩ := He.ba h
  obtain ⟨h11, h⟩ := He.ba h
  obtain ⟨h12, h⟩ := He.ba h
  obtain ⟨h13, h14⟩ := He.ba h
  have pair : ∀ y ∈ exNames, PySem.W.nsIn K mainGlobals y = some (some (exv K y)) → PySem.W.exmOne K (exv K x) (exv K y) = some (subX x y) ∧ PySem.W.kitOne K (exv K x) (exv K y) = some (subX x y) := fun y hy e => by
    have := List.all_eq_true.mp h13 y hy
    rw [decide_eq_true e, Bool.not_true, Bool.false_or] at this
    obtain ⟨a, b⟩ := He.ba this
    exact ⟨of_decide_eq_true a, of_decide_eq_true b⟩
  exact ⟨of_decide_eq_true h1, h2, h3, of_decide_eq_true h4, of_decide_eq_true h5, ⟨of_decide_eq_true h6, of_decide_eq_true h7, of_decide_eq_true h4, h8, of_decide_eq_true h9, of_decide_eq_true h10, of_decide_eq_true h11, of_decide_eq_true h12⟩, fun y hy e => (pair y hy e).1, fun y hy e => (pair y hy e).2, of_decide_eq_true h14⟩
/-! ### what is seen of the module -/
abbrev AlF : Type := He.AlD × List (Option (List (Option (Str × Int × Int)))) × Bool
abbrev TabF : Type := Str × List (Str × Int)
abbrev TupF : Type := Str × List Str
def obsF (fa : List He.Fa) (fn : List He.DefD) (ts : List TabF) (xs : List Str) (us : List TupF) (K : PySem.W.Frag) : AlF := (He.obsD fa fn K, ts.map (fun t => tabW K (He.ga K t.1)), xs.all (okXB K) && us.all fun u => He.tupB K u.1 (u.2.map He.Dv.str))
def valF (fn : List He.DefD) (ts : List TabF) (w : World) : AlF := (He.valD fn, ts.map (fun t => some (tabIn w.params t.2)), true)
def obsFG (n : Nat) (fa : List He.Fa) (fn : List He.DefD) (ts : List TabF) (xs : List Str) (us : List TupF) (g : Addr → Option Obj) : AlF := obsF fa fn ts xs us (He.frG g (He.asD g n))
def SaysF (fa : List He.Fa) (fn : List He.DefD) (ts : List TabF) (xs : List Str) (us : List TupF) (w : World) (K : PySem.W.Frag) : Prop := obsF fa fn ts xs us K = valF fn ts w
def hookF (n : Nat) (fa : List He.Fa) (fn : List He.DefD) (ts : List TabF) (xs : List Str) (us : List TupF) : PySem.W.Hook where
  α := AlF
  obs := fun s => obsFG n fa fn ts xs us s.heap.get?
  val := fun w => valF fn ts w
  says := fun w h => ∃ K : PySem.W.Frag, K.In h ∧ SaysF fa fn ts xs us w K
  of := fun _ _ e => ⟨_, He.frG_in, e⟩
  keeps := fun _ _ _ ⟨K, hK, c⟩ k => ⟨K, PySem.W.Frag.In.keeps hK k, c⟩
theorem obsFG_eq {n : Nat} {fa : List He.Fa} {fn : List He.DefD} {ts : List TabF} {xs : List Str} {us : List TupF} {g : Addr → Option Obj} {s : Shared} (h : ∀ a, g a = s.heap.get? a) : obsFG n fa fn ts xs us g = (hookF n fa fn ts xs us).obs s := by
  have e : g = s.heap.get? := funext h
  rw [e] <;> rfl
theorem map3 {α β γ δ : Type} {e : Option α} {f : α → β} {g : α → γ} {h : α → δ} {x : β} {y : γ} {z : δ} (q1 : e.map f = some x) (q2 : e.map g = some y) (q3 : e.map h = some z) : e.map (fun s => (f s, g s, h s)) = some (x, y, z) := by
  cases e with
  | none => cases q1
  | some s => rw [← Option.some.inj q1, ← Option.some.inj q2, ← Option.some.inj q3]; rfl
section
variable {fa : List He.Fa} {fn : List He.DefD} {ts : List TabF} {xs : List Str} {us : List TupF} {w : World} {K : PySem.W.Frag} {P : Program} {mg : Str → Option Value} {base : Heap} {h : Heap} {x : Str} {k n : Nat}
theorem SaysF.d (c : SaysF fa fn ts xs us w K) : He.SaysD fa fn K := congrArg (fun z : AlF => z.1) c
theorem SaysF.tab (c : SaysF fa fn ts xs us w K) (i : Nat) {t : TabF} (h : ts[i]? = some t := by rfl) : KTab K w (He.ga K t.1) t.2 := by
  have e : ts.map (fun t => tabW K (He.ga K t.1)) = ts.map fun t => some (tabIn w.params t.2) := congrArg (fun z : AlF => z.2.1) c
  have e2 : (ts.map fun t => tabW K (He.ga K t.1))[i]? = (ts.map fun t => some (tabIn w.params t.2))[i]? := by rw [e]
  rw [List.getElem?_map, List.getElem?_map, h] at e2
  exact ktab_of (Option.some.inj e2)
theorem excs_of (X : K.In h) (G : h.Ns mainGlobals mg) (c : SaysF fa fn ts xs us w K) {l : List Str} (hl : (l.all fun x => decide (x ∈ exNames) && decide (x ∈ xs)) = true) : ∀ x ∈ l, x ∈ exNames ∧ OkX K x ∧ mg x = some (exv K x) := fun x hx => by
  obtain ⟨h1, h2⟩ := He.ba (List.all_eq_true.mp hl x hx)
  have e : xs.all (okXB K) = true := (He.ba (congrArg (fun z : AlF => z.2.2) c)).1
  have ok := okXB_ok (List.all_eq_true.mp e x (of_decide_eq_true h2))
  exact ⟨of_decide_eq_true h1, ok, PySem.W.mg_of X G ok.glo⟩
theorem excs0 : ∀ x ∈ ([] : List Str), x ∈ exNames ∧ OkX K x ∧ mg x = some (exv K x) := fun _ z => nomatch z
theorem hots0 : ∀ f φ, tbl ([] : List (Str × (Str → D))) f = some φ → HasE P w K mg base f k φ := fun _ _ z => nomatch z
theorem hotsC {l : List (Str × (Str → D))} {y : Str} {j : Nat} {φ : Str → D} (h : HasE P w K mg base y j φ) (hj : j ≤ k) (r : ∀ f ψ, tbl l f = some ψ → HasE P w K mg base f k ψ) : ∀ f ψ, tbl ((y, φ) :: l) f = some ψ → HasE P w K mg base f k ψ := fun f φ' q => by
  unfold tbl at q
  split at q
  · rename_i e
    have e2 : φ = φ' := Option.some.inj q
    rw [e, ← e2]
    exact h.up hj
  · exact r f φ' q
/-- a def of the module stands -/
theorem df_of (X : K.In h) (G : h.Ns mainGlobals mg) (c : He.SaysD fa fn K) (i : Nat) {d : He.DefD} {st : Stmt} (h1 : fn[i]? = some d := by rfl) (h2 : fa[i]? = some (.glo x) := by rfl) (h3 : d = ⟨(x, none), x, x, defArgs st, defBody st, defScope st, [], []⟩ := by rfl) : Df K mg x st := by
  obtain ⟨fd, F⟩ := c.def_ i h1
  subst h3
  exact ⟨_, fd, He.glo_ok X G (c.fact i h2), F⟩
def blNames : List Str := ["isinstance", "len", "all", "any", "str", "int", "bool", "tuple", "list", "range", "zip", "enumerate", "set", "sorted", "max", "min", "sum", "dict", "ValueError"]
def blFa : List He.Fa := blNames.map He.Fa.free
theorem bl_of {f1 f2 : List He.Fa} (X : K.In h) (G : h.Ns mainGlobals mg) (c : He.SaysD fa fn K) (e : fa = f1 ++ (blFa ++ f2)) : Bl mg :=
  ⟨fun x hx => He.free_ok X G (c.facts (by rw [e]; exact List.mem_append.mpr (.inr (List.mem_append.mpr (.inl (List.mem_map.mpr ⟨x, hx, rfl⟩))))))⟩
/-! ### what a def may call, name, look up -/
theorem fns0 : ∀ x n g, tbl ([] : List (Str × (Nat × Fn))) x = some (n, g) → Has P w K mg base x k n g := fun _ _ _ h => by cases h
theorem fnsC {l : List (Str × (Nat × Fn))} {y : Str} {m j : Nat} {f : Fn} (h : Has P w K mg base y j m f) (hj : j ≤ k) (r : ∀ x n g, tbl l x = some (n, g) → Has P w K mg base x k n g) : ∀ x n g, tbl ((y, (m, f)) :: l) x = some (n, g) → Has P w K mg base x k n g := fun x n g q => by
  unfold tbl at q
  split at q
  · rename_i e
    cases q
    rw [e]
    exact h.up hj
  · exact r x n g q
theorem cons0 : ∀ x d, tbl ([] : List (Str × D)) x = some d → ∃ v u, mg x = some u ∧ RelV v u ∧ ∀ S, Rep K S d v := fun _ _ h => by cases h
theorem consI {l : List (Str × D)} {y : Str} {i : Int} (h : ∃ t, mg y = some (.int i t)) (r : ∀ x d, tbl l x = some d → ∃ v u, mg x = some u ∧ RelV v u ∧ ∀ S, Rep K S d v) : ∀ x d, tbl ((y, .int i) :: l) x = some d → ∃ v u, mg x = some u ∧ RelV v u ∧ ∀ S, Rep K S d v := fun x d q => by
  unfold tbl at q
  split at q
  · rename_i e
    cases q
    obtain ⟨t, ht⟩ := h
    rw [e]
    exact ⟨.int i, _, ht, ⟨t, rfl⟩, fun S => rfl⟩
  · exact r x d q
theorem consS {l : List (Str × D)} {y z : Str} (h : ∃ t, mg y = some (.str z t)) (hz : PyData.strOk z = true) (r : ∀ x d, tbl l x = some d → ∃ v u, mg x = some u ∧ RelV v u ∧ ∀ S, Rep K S d v) : ∀ x d, tbl ((y, .str z) :: l) x = some d → ∃ v u, mg x = some u ∧ RelV v u ∧ ∀ S, Rep K S d v := fun x d q => by
  unfold tbl at q
  split at q
  · rename_i e
    cases q
    obtain ⟨t, ht⟩ := h
    rw [e]
    exact ⟨.str z, _, ht, ⟨t, rfl⟩, fun S => ⟨rfl, hz⟩⟩
  · exact r x d q
theorem SaysF.tupl (c : SaysF fa fn ts xs us w K) (i : Nat) {u : TupF} (h : us[i]? = some u := by rfl) (H : Hp) : SqT K H (He.ga K u.1) ((u.2.map He.Dv.str).map (He.Dv.v K)) := by
  have e : (us.all fun u => He.tupB K u.1 (u.2.map He.Dv.str)) = true := (He.ba (congrArg (fun z : AlF => z.2.2) c)).2
  exact He.tupB_ok (List.all_eq_true.mp e u (List.mem_of_getElem? h)) H
theorem repL_strT {K : PySem.W.Frag} {S : Hp} : ∀ {zs : List Str}, zs.all PyData.strOk = true → RepL K S (zs.map D.str) ((zs.map He.Dv.str).map (He.Dv.v K))
  | [], _ => rfl
  | z :: r, h => by
    rw [List.all_cons, Bool.and_eq_true] at h
    exact ⟨_, _, rfl, ⟨rfl, h.1⟩, repL_strT h.2⟩
theorem consT {l : List (Str × D)} {y : Str} {a : Addr} {zs : List Str} (h : mg y = some (.ref a)) (ht : ∀ H, SqT K H a ((zs.map He.Dv.str).map (He.Dv.v K))) (hz : zs.all PyData.strOk = true) (r : ∀ x d, tbl l x = some d → ∃ v u, mg x = some u ∧ RelV v u ∧ ∀ S, Rep K S d v) :
    ∀ x d, tbl ((y, .tup (zs.map D.str)) :: l) x = some d → ∃ v u, mg x = some u ∧ RelV v u ∧ ∀ S, Rep K S d v := fun x d q => by
  unfold tbl at q
  split at q
  · rename_i e
    cases q
    rw [e]
    exact ⟨.ref a, _, h, rfl, fun S => ⟨a, _, rfl, ht S, repL_strT hz⟩⟩
  · exact r x d q
theorem tabs0 : ∀ x kvs, tbl ([] : List (Str × List (Str × Int))) x = some kvs → ∃ a, mg x = some (.ref a) ∧ KTab K w a kvs := fun _ _ h => by cases h
theorem tabsC {l : List (Str × List (Str × Int))} {y : Str} {t : List (Str × Int)} (h1 : ∃ a, mg y = some (.ref a) ∧ KTab K w a t) (r : ∀ x kvs, tbl l x = some kvs → ∃ a, mg x = some (.ref a) ∧ KTab K w a kvs) : ∀ x kvs, tbl ((y, t) :: l) x = some kvs → ∃ a, mg x = some (.ref a) ∧ KTab K w a kvs := fun x kvs q => by
  unfold tbl at q
  split at q
  · rename_i e
    cases q
    rw [e]
    exact h1
  · exact r x kvs q
end
/-! ### the law -/
section
variable {P : Program} {w : World} {K : PySem.W.Frag} {mg : Str → Option Value} {base : Heap} {x : Str} {st : Stmt} {N ps : List Str} {k n : Nat} {C : Ctx}
theorem ok_def {f : Addr} {fd : FuncData} (F : FunD K x x (defArgs st) (defBody st) (defScope st) [] [] f fd) (S : FnScope N ps (defScope st)) (hn : ps.length = n) (hN : C.N = N) (hsc : C.sc = defScope st) (hm : ModOk P w K mg base k C) (hhot : C.hot = none := by rfl) : FnOk P w K mg base (L2N.CX P w) (k + 1) f fd ps (spM K n (defSem C (defBody st))) := by
  have hh := fnM (P := P) (w := w) (mg := mg) (base := base) (k := k) (ws := evB 200 C (defBody st)) F S hn fun f cdv A outer s H E hroom => ?_
  · unfold defSem; rw [hN]; exact hh
  · obtain ⟨c1, c2⟩ := ctx_def S hN hsc hm hhot f cdv A outer s H E hroom
    exact sd_blk 200 _ _ _ _ c1 c2 _
/-- a def whose meaning is known -/
theorem has_w {ws : SS} (e : evB 200 C (defBody st) = ws) (h : Df K mg x st) (S : FnScope N ps (defScope st)) (b : Bnd x st ps) (hn : ps.length = n) (hN : C.N = N) (hsc : C.sc = defScope st) (hm : ModOk P w K mg base k C) (hhot : C.hot = none := by rfl) : Has P w K mg base x (k + 1) n (defW N ws) := by
  have h1 := has_def h S b hn hN hsc hm hhot
  unfold defSem at h1
  rw [e, hN] at h1
  exact h1
theorem hasE_w {ws : Addr → Str → SS} {φ : Str → D} (e : ∀ a c, evB 200 (C.suite a c) (defBody st) = ws a c) (h : Df K mg x st) (S : FnScope N ps (defScope st)) (b : Bnd x st ps) (hn : ps.length = 1) (hN : C.N = N) (hsc : C.sc = defScope st) (hm : ModOk P w K mg base k C)
    (hw : ∀ a c M, defW N (ws a c) [.ptr a] M (fun d M' => d = φ c ∧ M' = M) fun _ _ => False) : HasE P w K mg base x (k + 1) φ :=
  hasE_def h S b hn hN hsc hm fun a c M => by rw [e]; exact hw a c M
theorem has_bot (h : Df K mg x st) (S : FnScope N ps (defScope st)) (b : Bnd x st ps) (hn : ps.length = n) (B : Bl mg) : Has P w K mg base x 1 n fun _ _ _ _ => False :=
  (has_def (C := ⟨N, defScope st, fun _ => none, fun _ => none, fun _ => none, fun _ => false, fun _ => false, true, [], fun _ => none, none⟩) h S b hn rfl rfl (ModOk.mk (fun _ _ _ z => nomatch z) (fun _ _ z => nomatch z) (fun _ _ z => nomatch z) B (fun _ z => nomatch z) (fun _ _ z => nomatch z))).imp fun _ _ _ _ z => z.elim
end
theorem walkM {l : PySem.W.OpenLaw} {n k : Nat} {q : Program} {loose : List Str} {XP : (Str → Option Value) → Heap → Prop} {YP : World → Heap → Prop} {d : DefRec} {x : Str}
    (hn : l.most = some n) (hn2 : n ≤ sizeLine) (hdf : d.params.defaults = []) (hr : Room k callerA)
    (F : ∀ (w : World) (mg : Str → Option Value) (fa : Addr) (h : Heap), YP w h → h.Ns mainGlobals mg → mg d.name = some (.ref fa) →
      ∃ (K : PySem.W.Frag) (fd : FuncData) (g : Fn), K.In h ∧ (∀ (s : Shared) (u : Value), BindsTo s fd ⟨[u], []⟩ [(x, u)]) ∧
        (∀ ns : List Int, ns.length ≤ n → g [.scr ns] (fun _ => none) (dropQ fun d _ => d = .bl true) (dropQ fun _ _ => False)) ∧
        ∀ base : Heap, K.In base → base.Ns mainGlobals mg → FnOk l.prog w K mg base (L2N.CX l.prog w) k fa fd [x] (spM K 1 g)) :
    PySem.W.WalkO q loose XP YP l.row.toRowW d [] (fun f vs => PySem.call f vs) := by
  refine Att.attach_call hn hdf fun w s₀ s₁ mg mb fa o pm cd doc a vs ns G Y ho hd hcd hmg hobj hints hlen hg => ?_
  obtain ⟨K, fd, g, KX, hb, hsp, hF⟩ := F w mg fa _ Y G.T.g hmg
  refine law_call KX G.T.g G.T.b G.T.builtins G.T.nolimit hg hobj hints (Nat.le_trans hlen hn2) hr hF hb (fun H hO hS => ?_) fun H e s' ⟨_, _, _, _, _, _, _, _, _, _, _, _, z⟩ => z
  exact ⟨H, fun _ => none, [.scr ns], _, _, rfl, ⟨fun _ _ h => h, fun _ _ h => nomatch h⟩, ⟨_, [], rfl, ⟨a, rfl, hS⟩, rfl⟩, hsp ns hlen, fun d v S2 M2 H2 ⟨_, _, q⟩ e _ r => by subst q; exact r, fun c S2 M2 H2 ⟨_, _, q⟩ => q.elim⟩
end FL
set_option Elab.async false
set_option linter.all false
namespace FL
open PySem
/-! words apart -/
@[simp] theorem ne_less_same : (Str.ofString "less" = Str.ofString "same") = False := eq_false (by decide +kernel)
@[simp] theorem ne_less_apart : (Str.ofString "less" = Str.ofString "apart") = False := eq_false (by decide +kernel)
@[simp] theorem ne_less_if : (Str.ofString "less" = Str.ofString "if") = False := eq_false (by decide +kernel)
@[simp] theorem ne_less_only : (Str.ofString "less" = Str.ofString "only") = False := eq_false (by decide +kernel)
@[simp] theorem ne_less_key : (Str.ofString "less" = Str.ofString "key") = False := eq_false (by decide +kernel)
@[simp] theorem ne_less_rising : (Str.ofString "less" = Str.ofString "rising") = False := eq_false (by decide +kernel)
@[simp] theorem ne_less_sum : (Str.ofString "less" = Str.ofString "sum") = False := eq_false (by decide +kernel)
@[simp] theorem ne_less_share : (Str.ofString "less" = Str.ofString "share") = False := eq_false (by decide +kernel)
@[simp] theorem ne_less_each : (Str.ofString "less" = Str.ofString "each") = False := eq_false (by decide +kernel)
@[simp] theorem ne_less_held : (Str.ofString "less" = Str.ofString "held") = False := eq_false (by decide +kernel)
@[simp] theorem ne_less_lead : (Str.ofString "less" = Str.ofString "lead") = False := eq_false (by decide +kernel)
@[simp] theorem ne_same_less : (Str.ofString "same" = Str.ofString "less") = False := eq_false (by decide +kernel)
@[simp] theorem ne_same_apart : (Str.ofString "same" = Str.ofString "apart") = False := eq_false (by decide +kernel)
@[simp] theorem ne_same_if : (Str.ofString "same" = Str.ofString "if") = False := eq_false (by decide +kernel)
@[simp] theorem ne_same_only : (Str.ofString "same" = Str.ofString "only") = False := eq_false (by decide +kernel)
@[simp] theorem ne_same_key : (Str.ofString "same" = Str.ofString "key") = False := eq_false (by decide +kernel)
@[simp] theorem ne_same_rising : (Str.ofString "same" = Str.ofString "rising") = False := eq_false (by decide +kernel)
@[simp] theorem ne_same_sum : (Str.ofString "same" = Str.ofString "sum") = False := eq_false (by decide +kernel)
@[simp] theorem ne_same_share : (Str.ofString "same" = Str.ofString "share") = False := eq_false (by decide +kernel)
@[simp] theorem ne_same_each : (Str.ofString "same" = Str.ofString "each") = False := eq_false (by decide +kernel)
@[simp] theorem ne_same_held : (Str.ofString "same" = Str.ofString "held") = False := eq_false (by decide +kernel)
@[simp] theorem ne_same_lead : (Str.ofString "same" = Str.ofString "lead") = False := eq_false (by decide +kernel)
@[simp] theorem ne_apart_less : (Str.ofString "apart" = Str.ofString "less") = False := eq_false (by decide +kernel)
@[simp] theorem ne_apart_same : (Str.ofString "apart" = Str.ofString "same") = False := eq_false (by decide +kernel)
@[simp] theorem ne_apart_if : (Str.ofString "apart" = Str.ofString "if") = False := eq_false (by decide +kernel)
@[simp] theorem ne_apart_only : (Str.ofString "apart" = Str.ofString "only") = False := eq_false (by decide +kernel)
@[simp] theorem ne_apart_key : (Str.ofString "apart" = Str.ofString "key") = False := eq_false (by decide +kernel)
@[simp] theorem ne_apart_rising : (Str.ofString "apart" = Str.ofString "rising") = False := eq_false (by decide +kernel)
@[simp] theorem ne_apart_sum : (Str.ofString "apart" = Str.ofString "sum") = False := eq_false (by decide +kernel)
@[simp] theorem ne_apart_share : (Str.ofString "apart" = Str.ofString "share") = False := eq_false (by decide +kernel)
@[simp] theorem ne_apart_each : (Str.ofString "apart" = Str.ofString "each") = False := eq_false (by decide +kernel)
@[simp] theorem ne_apart_held : (Str.ofString "apart" = Str.ofString "held") = False := eq_false (by decide +kernel)
@[simp] theorem ne_apart_lead : (Str.ofString "apart" = Str.ofString "lead") = False := eq_false (by decide +kernel)
@[simp] theorem ne_if_less : (Str.ofString "if" = Str.ofString "less") = False := eq_false (by decide +kernel)
@[simp] theorem ne_if_same : (Str.ofString "if" = Str.ofString "same") = False := eq_false (by decide +kernel)
@[simp] theorem ne_if_apart : (Str.ofString "if" = Str.ofString "apart") = False := eq_false (by decide +kernel)
@[simp] theorem ne_if_only : (Str.ofString "if" = Str.ofString "only") = False := eq_false (by decide +kernel)
@[simp] theorem ne_if_key : (Str.ofString "if" = Str.ofString "key") = False := eq_false (by decide +kernel)
@[simp] theorem ne_if_rising : (Str.ofString "if" = Str.ofString "rising") = False := eq_false (by decide +kernel)
@[simp] theorem ne_if_sum : (Str.ofString "if" = Str.ofString "sum") = False := eq_false (by decide +kernel)
@[simp] theorem ne_if_share : (Str.ofString "if" = Str.ofString "share") = False := eq_false (by decide +kernel)
@[simp] theorem ne_if_each : (Str.ofString "if" = Str.ofString "each") = False := eq_false (by decide +kernel)
@[simp] theorem ne_if_held : (Str.ofString "if" = Str.ofString "held") = False := eq_false (by decide +kernel)
@[simp] theorem ne_if_lead : (Str.ofString "if" = Str.ofString "lead") = False := eq_false (by decide +kernel)
@[simp] theorem ne_only_less : (Str.ofString "only" = Str.ofString "less") = False := eq_false (by decide +kernel)
@[simp] theorem ne_only_same : (Str.ofString "only" = Str.ofString "same") = False := eq_false (by decide +kernel)
@[simp] theorem ne_only_apart : (Str.ofString "only" = Str.ofString "apart") = False := eq_false (by decide +kernel)
@[simp] theorem ne_only_if : (Str.ofString "only" = Str.ofString "if") = False := eq_false (by decide +kernel)
@[simp] theorem ne_only_key : (Str.ofString "only" = Str.ofString "key") = False := eq_false (by decide +kernel)
@[simp] theorem ne_only_rising : (Str.ofString "only" = Str.ofString "rising") = False := eq_false (by decide +kernel)
@[simp] theorem ne_only_sum : (Str.ofString "only" = Str.ofString "sum") = False := eq_false (by decide +kernel)
@[simp] theorem ne_only_share : (Str.ofString "only" = Str.ofString "share") = False := eq_false (by decide +kernel)
@[simp] theorem ne_only_each : (Str.ofString "only" = Str.ofString "each") = False := eq_false (by decide +kernel)
@[simp] theorem ne_only_held : (Str.ofString "only" = Str.ofString "held") = False := eq_false (by decide +kernel)
@[simp] theorem ne_only_lead : (Str.ofString "only" = Str.ofString "lead") = False := eq_false (by decide +kernel)
@[simp] theorem ne_key_less : (Str.ofString "key" = Str.ofString "less") = False := eq_false (by decide +kernel)
@[simp] theorem ne_key_same : (Str.ofString "key" = Str.ofString "same") = False := eq_false (by decide +kernel)
@[simp] theorem ne_key_apart : (Str.ofString "key" = Str.ofString "apart") = False := eq_false (by decide +kernel)
@[simp] theorem ne_key_if : (Str.ofString "key" = Str.ofString "if") = False := eq_false (by decide +kernel)
@[simp] theorem ne_key_only : (Str.ofString "key" = Str.ofString "only") = False := eq_false (by decide +kernel)
@[simp] theorem ne_key_rising : (Str.ofString "key" = Str.ofString "rising") = False := eq_false (by decide +kernel)
@[simp] theorem ne_key_sum : (Str.ofString "key" = Str.ofString "sum") = False := eq_false (by decide +kernel)
@[simp] theorem ne_key_share : (Str.ofString "key" = Str.ofString "share") = False := eq_false (by decide +kernel)
@[simp] theorem ne_key_each : (Str.ofString "key" = Str.ofString "each") = False := eq_false (by decide +kernel)
@[simp] theorem ne_key_held : (Str.ofString "key" = Str.ofString "held") = False := eq_false (by decide +kernel)
@[simp] theorem ne_key_lead : (Str.ofString "key" = Str.ofString "lead") = False := eq_false (by decide +kernel)
@[simp] theorem ne_rising_less : (Str.ofString "rising" = Str.ofString "less") = False := eq_false (by decide +kernel)
@[simp] theorem ne_rising_same : (Str.ofString "rising" = Str.ofString "same") = False := eq_false (by decide +kernel)
@[simp] theorem ne_rising_apart : (Str.ofString "rising" = Str.ofString "apart") = False := eq_false (by decide +kernel)
@[simp] theorem ne_rising_if : (Str.ofString "rising" = Str.ofString "if") = False := eq_false (by decide +kernel)
@[simp] theorem ne_rising_only : (Str.ofString "rising" = Str.ofString "only") = False := eq_false (by decide +kernel)
@[simp] theorem ne_rising_key : (Str.ofString "rising" = Str.ofString "key") = False := eq_false (by decide +kernel)
@[simp] theorem ne_rising_sum : (Str.ofString "rising" = Str.ofString "sum") = False := eq_false (by decide +kernel)
@[simp] theorem ne_rising_share : (Str.ofString "rising" = Str.ofString "share") = False := eq_false (by decide +kernel)
@[simp] theorem ne_rising_each : (Str.ofString "rising" = Str.ofString "each") = False := eq_false (by decide +kernel)
@[simp] theorem ne_rising_held : (Str.ofString "rising" = Str.ofString "held") = False := eq_false (by decide +kernel)
@[simp] theorem ne_rising_lead : (Str.ofString "rising" = Str.ofString "lead") = False := eq_false (by decide +kernel)
@[simp] theorem ne_sum_less : (Str.ofString "sum" = Str.ofString "less") = False := eq_false (by decide +kernel)
@[simp] theorem ne_sum_same : (Str.ofString "sum" = Str.ofString "same") = False := eq_false (by decide +kernel)
@[simp] theorem ne_sum_apart : (Str.ofString "sum" = Str.ofString "apart") = False := eq_false (by decide +kernel)
@[simp] theorem ne_sum_if : (Str.ofString "sum" = Str.ofString "if") = False := eq_false (by decide +kernel)
@[simp] theorem ne_sum_only : (Str.ofString "sum" = Str.ofString "only") = False := eq_false (by decide +kernel)
@[simp] theorem ne_sum_key : (Str.ofString "sum" = Str.ofString "key") = False := eq_false (by decide +kernel)
@[simp] theorem ne_sum_rising : (Str.ofString "sum" = Str.ofString "rising") = False := eq_false (by decide +kernel)
@[simp] theorem ne_sum_share : (Str.ofString "sum" = Str.ofString "share") = False := eq_false (by decide +kernel)
@[simp] theorem ne_sum_each : (Str.ofString "sum" = Str.ofString "each") = False := eq_false (by decide +kernel)
@[simp] theorem ne_sum_held : (Str.ofString "sum" = Str.ofString "held") = False := eq_false (by decide +kernel)
@[simp] theorem ne_sum_lead : (Str.ofString "sum" = Str.ofString "lead") = False := eq_false (by decide +kernel)
@[simp] theorem ne_share_less : (Str.ofString "share" = Str.ofString "less") = False := eq_false (by decide +kernel)
@[simp] theorem ne_share_same : (Str.ofString "share" = Str.ofString "same") = False := eq_false (by decide +kernel)
@[simp] theorem ne_share_apart : (Str.ofString "share" = Str.ofString "apart") = False := eq_false (by decide +kernel)
@[simp] theorem ne_share_if : (Str.ofString "share" = Str.ofString "if") = False := eq_false (by decide +kernel)
@[simp] theorem ne_share_only : (Str.ofString "share" = Str.ofString "only") = False := eq_false (by decide +kernel)
@[simp] theorem ne_share_key : (Str.ofString "share" = Str.ofString "key") = False := eq_false (by decide +kernel)
@[simp] theorem ne_share_rising : (Str.ofString "share" = Str.ofString "rising") = False := eq_false (by decide +kernel)
@[simp] theorem ne_share_sum : (Str.ofString "share" = Str.ofString "sum") = False := eq_false (by decide +kernel)
@[simp] theorem ne_share_each : (Str.ofString "share" = Str.ofString "each") = False := eq_false (by decide +kernel)
@[simp] theorem ne_share_held : (Str.ofString "share" = Str.ofString "held") = False := eq_false (by decide +kernel)
@[simp] theorem ne_share_lead : (Str.ofString "share" = Str.ofString "lead") = False := eq_false (by decide +kernel)
@[simp] theorem ne_each_less : (Str.ofString "each" = Str.ofString "less") = False := eq_false (by decide +kernel)
@[simp] theorem ne_each_same : (Str.ofString "each" = Str.ofString "same") = False := eq_false (by decide +kernel)
@[simp] theorem ne_each_apart : (Str.ofString "each" = Str.ofString "apart") = False := eq_false (by decide +kernel)
@[simp] theorem ne_each_if : (Str.ofString "each" = Str.ofString "if") = False := eq_false (by decide +kernel)
@[simp] theorem ne_each_only : (Str.ofString "each" = Str.ofString "only") = False := eq_false (by decide +kernel)
@[simp] theorem ne_each_key : (Str.ofString "each" = Str.ofString "key") = False := eq_false (by decide +kernel)
@[simp] theorem ne_each_rising : (Str.ofString "each" = Str.ofString "rising") = False := eq_false (by decide +kernel)
@[simp] theorem ne_each_sum : (Str.ofString "each" = Str.ofString "sum") = False := eq_false (by decide +kernel)
@[simp] theorem ne_each_share : (Str.ofString "each" = Str.ofString "share") = False := eq_false (by decide +kernel)
@[simp] theorem ne_each_held : (Str.ofString "each" = Str.ofString "held") = False := eq_false (by decide +kernel)
@[simp] theorem ne_each_lead : (Str.ofString "each" = Str.ofString "lead") = False := eq_false (by decide +kernel)
@[simp] theorem ne_held_less : (Str.ofString "held" = Str.ofString "less") = False := eq_false (by decide +kernel)
@[simp] theorem ne_held_same : (Str.ofString "held" = Str.ofString "same") = False := eq_false (by decide +kernel)
@[simp] theorem ne_held_apart : (Str.ofString "held" = Str.ofString "apart") = False := eq_false (by decide +kernel)
@[simp] theorem ne_held_if : (Str.ofString "held" = Str.ofString "if") = False := eq_false (by decide +kernel)
@[simp] theorem ne_held_only : (Str.ofString "held" = Str.ofString "only") = False := eq_false (by decide +kernel)
@[simp] theorem ne_held_key : (Str.ofString "held" = Str.ofString "key") = False := eq_false (by decide +kernel)
@[simp] theorem ne_held_rising : (Str.ofString "held" = Str.ofString "rising") = False := eq_false (by decide +kernel)
@[simp] theorem ne_held_sum : (Str.ofString "held" = Str.ofString "sum") = False := eq_false (by decide +kernel)
@[simp] theorem ne_held_share : (Str.ofString "held" = Str.ofString "share") = False := eq_false (by decide +kernel)
@[simp] theorem ne_held_each : (Str.ofString "held" = Str.ofString "each") = False := eq_false (by decide +kernel)
@[simp] theorem ne_held_lead : (Str.ofString "held" = Str.ofString "lead") = False := eq_false (by decide +kernel)
@[simp] theorem ne_lead_less : (Str.ofString "lead" = Str.ofString "less") = False := eq_false (by decide +kernel)
@[simp] theorem ne_lead_same : (Str.ofString "lead" = Str.ofString "same") = False := eq_false (by decide +kernel)
@[simp] theorem ne_lead_apart : (Str.ofString "lead" = Str.ofString "apart") = False := eq_false (by decide +kernel)
@[simp] theorem ne_lead_if : (Str.ofString "lead" = Str.ofString "if") = False := eq_false (by decide +kernel)
@[simp] theorem ne_lead_only : (Str.ofString "lead" = Str.ofString "only") = False := eq_false (by decide +kernel)
@[simp] theorem ne_lead_key : (Str.ofString "lead" = Str.ofString "key") = False := eq_false (by decide +kernel)
@[simp] theorem ne_lead_rising : (Str.ofString "lead" = Str.ofString "rising") = False := eq_false (by decide +kernel)
@[simp] theorem ne_lead_sum : (Str.ofString "lead" = Str.ofString "sum") = False := eq_false (by decide +kernel)
@[simp] theorem ne_lead_share : (Str.ofString "lead" = Str.ofString "share") = False := eq_false (by decide +kernel)
@[simp] theorem ne_lead_each : (Str.ofString "lead" = Str.ofString "each") = False := eq_false (by decide +kernel)
@[simp] theorem ne_lead_held : (Str.ofString "lead" = Str.ofString "held") = False := eq_false (by decide +kernel)
end FL
set_option Elab.async false
set_option linter.all false
set_option maxRecDepth 100000
set_option maxHeartbeats 4000000
namespace FL
open PySem PySem.Spec PyProof.Rows L2 Evl
/-! ### rowmint/columns.py: what its looks reckon -/
def Imp (g' g : Fn) : Prop := ∀ ds M Q X, g' ds M Q X → g ds M (dropQ Q) (dropQ X)
def small : Str := "abcdefghijklmnopqrstuvwxyz"
abbrev isStr (d : D) : Bool := isTyD .str d
abbrev isBool (d : D) : Bool := isTyD .bool d
abbrev isInt (d : D) : Bool := isTyD .int d
abbrev isTupD (d : D) : Bool := isTyD .tuple d
def isWhole (d : D) (lo hi : Int) : Bool := match d with
  | .int i => decide (lo ≤ i) && decide (i ≤ hi)
  | _ => false
def ltD : D → D → Bool
  | .int i, .int j => decide (i < j)
  | .str x, .str y => ltS x y
  | _, _ => false
def nth (ds : List D) (i : Nat) : D := ds.getD i .non
@[simp] theorem nth_0 {a : D} {r : List D} : nth (a :: r) 0 = a := rfl
@[simp] theorem nth_1 {a b : D} {r : List D} : nth (a :: b :: r) 1 = b := rfl
@[simp] theorem nth_2 {a b c : D} {r : List D} : nth (a :: b :: c :: r) 2 = c := rfl
@[simp] theorem nth_3 {a b c d : D} {r : List D} : nth (a :: b :: c :: d :: r) 3 = d := rfl
@[simp] theorem nth_4 {a b c d e : D} {r : List D} : nth (a :: b :: c :: d :: e :: r) 4 = e := rfl
def rise (ds : List D) : Bool := (List.range (ds.length - 1)).all fun k => ltD (nth ds k) (nth ds (k + 1))
/-- numbers alone, or texts alone -/
def Homo (ds : List D) : Prop := (∀ d ∈ ds, ∃ i, d = .int i) ∨ ∀ d ∈ ds, ∃ z, d = .str z
abbrev Cl := Str × List D
def colD (c : Cl) : D := .tup [.str c.1, .tup c.2]
def colsD (cs : List Cl) : D := .tup (cs.map colD)
def spotOf (cs : List Cl) (x : Str) : Nat := cs.findIdx fun c => decide (c.1 = x)
def valsOf (cs : List Cl) (x : Str) : List D := (cs.getD (spotOf cs x) ("", [])).2
def isValue (vals : List D) (d : D) : Bool := (isInt d || isStr d) && !isBool d && inD d vals
def hasCol (cs : List Cl) (d : D) : Bool := match d with
  | .str x => cs.any fun c => decide (c.1 = x)
  | _ => false
theorem hasCol_iff {cs : List Cl} {d : D} : hasCol cs d = true ↔ ∃ x, d = .str x ∧ ∃ c ∈ cs, c.1 = x := by
  cases d <;> simp [hasCol]
theorem hasCol_str {cs : List Cl} {x : Str} : hasCol cs (.str x) = true ↔ ∃ c ∈ cs, c.1 = x := by simp [hasCol]
theorem colD_inj {a b : Cl} (h : colD a = colD b) : a = b := by
  obtain ⟨a1, a2⟩ := a; obtain ⟨b1, b2⟩ := b
  unfold colD at h
  cases h
  rfl
@[simp] theorem colsD_inj {a b : List Cl} : colsD a = colsD b ↔ a = b := by
  refine ⟨fun h => ?_, fun h => by rw [h]⟩
  unfold colsD at h
  exact (List.map_inj_right (fun x y z => colD_inj z)).mp (D.tup.inj h)
/-- columns -/
structure Cols (cs : List Cl) : Prop where
  flat : ∀ c ∈ cs, c.2.all flatD = true
  few : cs.length ≤ 100000
  homo : ∀ c ∈ cs, Homo c.2
  full : ∀ c ∈ cs, 1 ≤ c.2.length ∧ c.2.length ≤ 100000
@[simp ↓] def g_is_whole : Fn := fun ds M Q _ => match ds with
  | [d, .int lo, .int hi] => pure d = true ∧ Q (.bl (isWhole d lo hi)) M
  | _ => False
@[simp ↓] def g_rise : Fn := fun ds M Q _ => match ds with
  | [d] => ∃ xs, (d = .tup xs ∨ d = .lst xs) ∧ Homo xs ∧ xs.length ≤ 100000 ∧ Q (.bl (rise xs)) M
  | _ => False
@[simp ↓] def g_spot_of : Fn := fun ds M Q _ => match ds with
  | [c, .str x] => ∃ cs, c = colsD cs ∧ hasCol cs (.str x) = true ∧ Q (.int (spotOf cs x)) M
  | _ => False
@[simp ↓] def g_values_of : Fn := fun ds M Q _ => match ds with
  | [c, .str x] => ∃ cs, c = colsD cs ∧ hasCol cs (.str x) = true ∧ Q (.tup (valsOf cs x)) M
  | _ => False
@[simp ↓] def g_has_column : Fn := fun ds M Q _ => match ds with
  | [c, d] => ∃ cs, c = colsD cs ∧ cs.length ≤ 100000 ∧ pure d = true ∧ Q (.bl (hasCol cs d)) M
  | _ => False
@[simp ↓] def g_is_value : Fn := fun ds M Q _ => match ds with
  | [c, .str x, d] => ∃ cs, c = colsD cs ∧ hasCol cs (.str x) = true ∧ Cols cs ∧ pure d = true ∧ Q (.bl (isValue (valsOf cs x) d)) M
  | _ => False
def numsD (vals : List D) : Bool := isInt (nth vals 0)
@[simp ↓] def g_has_numbers : Fn := fun ds M Q _ => match ds with
  | [c, .str x] => ∃ cs, c = colsD cs ∧ hasCol cs (.str x) = true ∧ Cols cs ∧ Q (.bl (numsD (valsOf cs x))) M
  | _ => False
/- is_whole: 0 thing 1 low 2 high -/
abbrev N_is_whole : List Str := ["thing", "low", "high"]
def w_is_whole : SS := (sSeq (sRet (wAnd (wIs1 .int (wSlot 0)) (wAnd (wNot (wIs1 .bool (wSlot 0))) (w3 sLe sLe (wSlot 1) (wSlot 0) (wSlot 2)))))
sNil)
/- rise: 0 some 1 k -/
abbrev N_rise : List Str := ["some", "k"]
def w_rise : SS := (sSeq (sRet (wF sAll (aCons (wLc false (wRange1 (aCons (w2 sSub (wF sLen (aCons (wSlot 0) aNil)) (wC (.int 1))) aNil)) (asT1 1) [1] tTrue (w2 sLt (w2 sSub1 (wSlot 0) (wSlot 1)) (w2 sSub1 (wSlot 0) (w2 (sAdd false) (wSlot 1) (wC (.int 1)))))) aNil)))
sNil)
/- spot_of: 0 columns 1 name 2 spot 3 column -/
abbrev N_spot_of : List Str := ["columns", "name", "spot", "column"]
def w_spot_of : SS := (sSeq (sFor (wEnum true (aCons (wSlot 0) aNil)) (gTuple [2, 3])
 (sSeq (sIf (wTest (w2 (sEq false) (w2 sSub1 (wSlot 3) (wC (.int 0))) (wSlot 1)))
 (sSeq (sRet (wSlot 2))
sNil)
 sNil)
sNil))
(sSeq (sRaise "NoColumn")
sNil))
/- has_column: 0 columns 1 name 2 column -/
abbrev N_has_column : List Str := ["columns", "name", "column"]
def w_has_column : SS := (sSeq (sRet (wAnd (wIs1 .str (wSlot 1)) (w2 (sInD false) (wSlot 1) (wLc false (wIt (wSlot 0)) (asT1 2) [2] tTrue (w2 sSub1 (wSlot 2) (wC (.int 0)))))))
sNil)
/- values_of: 0 columns 1 name -/
abbrev N_values_of : List Str := ["columns", "name"]
def w_values_of : SS := (sSeq (sRet (w2 sSub1 (w2 sSub1 (wSlot 0) (wCall 2 g_spot_of (aCons (wSlot 0) (aCons (wSlot 1) aNil)))) (wC (.int 1))))
sNil)
/- is_value: 0 columns 1 name 2 thing -/
abbrev N_is_value : List Str := ["columns", "name", "thing"]
def w_is_value : SS := (sSeq (sIf (tOr (wTest (wIs1 .bool (wSlot 2))) (tNot (wTest (wIs2 .int .str (wSlot 2)))))
 (sSeq (sRet (wC (.bl false)))
sNil)
 sNil)
(sSeq (sRet (w2 (sInD false) (wSlot 2) (wCall 2 g_values_of (aCons (wSlot 0) (aCons (wSlot 1) aNil)))))
sNil))
/- has_numbers: 0 columns 1 name -/
abbrev N_has_numbers : List Str := ["columns", "name"]
def w_has_numbers : SS := (sSeq (sRet (wIs1 .int (w2 sSub1 (wCall 2 g_values_of (aCons (wSlot 0) (aCons (wSlot 1) aNil))) (wC (.int 0)))))
sNil)
theorem p_is_whole : Imp g_is_whole (defW N_is_whole w_is_whole) := by
  intro ds M Q X h
  unfold g_is_whole at h
  split at h
  · rename_i d lo hi
    obtain ⟨hp, h⟩ := h
    replace h := dropQ.self h
    simp only [defW, env0, w_is_whole]
    cases d <;> simp_all [isTy_pure, isTyD, isWhole]
  · exact h.elim
theorem nth_get {ds : List D} {i : Nat} (h : i < ds.length) : ds[i]? = some (nth ds i) := by
  unfold nth; rw [List.getD_eq_getElem?_getD, List.getElem?_eq_getElem h]; rfl
theorem atI_nth {ds : List D} {i : Nat} (h : i < ds.length) : atI ds (i : Int) = some (nth ds i) := atI_nat (nth_get h)
theorem nth_mem {ds : List D} {i : Nat} (h : i < ds.length) : nth ds i ∈ ds := List.mem_of_getElem? (nth_get h)
theorem p_rise : Imp g_rise (defW N_rise w_rise) := by
  intro ds M Q X h
  unfold g_rise at h
  split at h
  · rename_i d
    obtain ⟨xs, hd, hh, hl, h⟩ := h
    replace h := dropQ.self h
    have core : ∀ d, (d = .tup xs ∨ d = .lst xs) → defW N_rise w_rise [d] M (dropQ Q) (dropQ X) := by
      intro d hd
      rcases hd with rfl | rfl <;> simp [↓defW, env0, ↓w_rise]
      all_goals
        refine wLc_rng (lo := 0) (n := xs.length - 1) (fun i => .bl (ltD (nth xs i) (nth xs (i + 1)))) ?_ (by omega) ?_ ?_
        · intro R hR; simp; exact ⟨by omega, by omega, hR⟩
        · intro i hi
          have h1 := atI_nth (ds := xs) (i := i) (by omega)
          have h2 := atI_nth (ds := xs) (i := i + 1) (by omega)
          simp [asT1, wipeE]
          intro M' R q
          refine ⟨_, h1, _, h2, ?_⟩
          have m1 := nth_mem (ds := xs) (i := i) (by omega)
          have m2 := nth_mem (ds := xs) (i := i + 1) (by omega)
          rcases hh with hh | hh <;> (obtain ⟨a, ea⟩ := hh _ m1; obtain ⟨b, eb⟩ := hh _ m2; rw [ea, eb] at q ⊢; simpa [ltD] using q)
        · simp; exact h
    exact core d hd
  · exact h.elim
theorem p_spot_of : Imp g_spot_of (defW N_spot_of w_spot_of) := by
  intro ds M Q X h
  unfold g_spot_of at h
  split at h
  · rename_i x
    obtain ⟨cs, rfl, hx, h⟩ := h
    replace h := dropQ.self h
    simp [↓defW, env0, ↓w_spot_of, colsD]
    refine loopW_ind (fun i e m => ∃ a b, e = [some (D.tup (List.map colD cs)), some (D.str x), a, b] ∧ m = M ∧ ∀ j c, j < i → cs[j]? = some c → c.1 ≠ x) ⟨_, _, rfl, rfl, fun _ _ z => absurd z (by omega)⟩ (fun _ _ _ _ => trivial) ?_ ?_
    · rintro e m ⟨a, b, rfl, rfl, hn⟩
      obtain ⟨c, hc, e⟩ := hasCol_str.mp hx
      obtain ⟨j, hj⟩ := List.getElem?_of_mem hc
      have := (List.getElem?_eq_some_iff.mp hj).1
      exact (hn j c (by simpa using this) hj e).elim
    · rintro i d e m K hd ⟨a, b, rfl, rfl, hn⟩ hnx hct hbk hrt hxx
      obtain ⟨c0, hc0, rfl⟩ := enumD_get hd
      rw [List.getElem?_map] at hc0
      obtain ⟨c, hc, rfl⟩ := Option.map_eq_some_iff.mp hc0
      simp [colD]
      by_cases e : c.1 = x
      · simp [e]
        refine hrt _ _ ?_
        have : spotOf cs x = i := by
          have hi := (List.getElem?_eq_some_iff.mp hc)
          unfold spotOf
          have hlt := hi.1
          refine (List.findIdx_eq hi.1).mpr ⟨by rw [hi.2]; exact decide_eq_true e, fun j hj => decide_eq_false (hn j _ hj (List.getElem?_eq_getElem (Nat.lt_trans hj hlt)))⟩
        rw [← this]
        exact h
      · simp [e]
        refine hnx _ _ ⟨_, _, rfl, rfl, fun j c' hj hc' => ?_⟩
        by_cases hji : j = i
        · rw [hji, hc] at hc'; cases hc'; exact e
        · exact hn j c' (by omega) hc'
  · exact h.elim
theorem inD_names {cs : List Cl} {x : Str} : inD (.str x) (cs.map fun c => D.str c.1) = hasCol cs (.str x) := by
  unfold inD hasCol
  rw [List.any_map]
  congr 1
theorem p_has_column : Imp g_has_column (defW N_has_column w_has_column) := by
  intro ds M Q X h
  unfold g_has_column at h
  split at h
  · rename_i x
    obtain ⟨cs, rfl, hl, hp, h⟩ := h
    replace h := dropQ.self h
    simp [↓defW, env0, ↓w_has_column, colsD, tyOf_pure hp, isTy_pure hp]
    cases x <;> first | (simp [isTyD]; exact h) | simp [isTyD]
    rename_i x
    refine wLc_map (fun d => match d with | .tup (a :: _) => a | _ => .non) (ds := cs.map colD) (fun R q => by simpa using q) (by simpa using hl) (fun d hd => ?_) ?_
    · obtain ⟨c, hc, rfl⟩ := List.mem_map.mp hd
      exact ⟨_, rfl, fun M' R q => by simpa [wipeE, colD, atI, ixN] using q⟩
    · rw [List.map_map]
      simp [colD, flatD, Function.comp_def, inD_names]
      exact ⟨fun d x l _ e => by rw [← e], h⟩
  · exact h.elim
theorem valsOf_mem {cs : List Cl} {x : Str} (h : hasCol cs (.str x) = true) : ∃ c ∈ cs, c.1 = x ∧ valsOf cs x = c.2 ∧ cs[spotOf cs x]? = some c := by
  obtain ⟨c0, h0, e0⟩ := hasCol_str.mp h
  have hi : spotOf cs x < cs.length := List.findIdx_lt_length_of_exists ⟨c0, h0, decide_eq_true e0⟩
  refine ⟨cs[spotOf cs x], List.getElem_mem hi, ?_, ?_, List.getElem?_eq_getElem hi⟩
  · have := List.findIdx_getElem (p := fun c : Cl => decide (c.1 = x)) (xs := cs) (w := hi)
    exact of_decide_eq_true this
  · unfold valsOf; rw [List.getD_eq_getElem?_getD, List.getElem?_eq_getElem hi]; rfl
theorem p_values_of : Imp g_values_of (defW N_values_of w_values_of) := by
  intro ds M Q X h
  unfold g_values_of at h
  split at h
  · rename_i x
    obtain ⟨cs, rfl, hx, h⟩ := h
    replace h := dropQ.self h
    obtain ⟨c, hc, e1, e2, e3⟩ := valsOf_mem hx
    have e4 : atI (cs.map colD) (spotOf cs x : Int) = some (colD c) := atI_nat (by rw [List.getElem?_map, e3]; rfl)
    simp [↓defW, env0, ↓w_values_of, g_spot_of]
    refine ⟨hx, ?_⟩
    simp [colsD, e4]
    simp [colD, atI, ixN, ← e2]
    exact h
  · exact h.elim
theorem Cols.vals {cs : List Cl} (h : Cols cs) {x : Str} (hx : hasCol cs (.str x) = true) : (valsOf cs x).all flatD = true ∧ Homo (valsOf cs x) ∧ 1 ≤ (valsOf cs x).length ∧ (valsOf cs x).length ≤ 100000 := by
  obtain ⟨c, hc, _, e, _⟩ := valsOf_mem hx
  rw [e]
  exact ⟨h.flat c hc, h.homo c hc, h.full c hc⟩
theorem p_is_value : Imp g_is_value (defW N_is_value w_is_value) := by
  intro ds M Q X h
  unfold g_is_value at h
  split at h
  · rename_i x d
    obtain ⟨cs, rfl, hx, hC, hp, h⟩ := h
    replace h := dropQ.self h
    obtain ⟨f1, f2, f3, f4⟩ := hC.vals hx
    simp [↓defW, env0, ↓w_is_value, g_values_of, tyOf_pure hp, isTy_pure hp]
    cases d <;> simp [isTyD, isValue] at h ⊢ <;> first
      | exact h
      | exact ⟨hx, by simpa [flatD] using ⟨fun e he => List.all_eq_true.mp f1 e he, h⟩⟩
  · exact h.elim
theorem p_has_numbers : Imp g_has_numbers (defW N_has_numbers w_has_numbers) := by
  intro ds M Q X h
  unfold g_has_numbers at h
  split at h
  · rename_i x
    obtain ⟨cs, rfl, hx, hC, h⟩ := h
    replace h := dropQ.self h
    obtain ⟨f1, f2, f3, f4⟩ := hC.vals hx
    have e := atI_nth (ds := valsOf cs x) (i := 0) (by omega)
    simp [↓defW, env0, ↓w_has_numbers, g_values_of]
    refine ⟨hx, _, e, ?_⟩
    have hm := nth_mem (ds := valsOf cs x) (i := 0) (by omega)
    unfold numsD at h
    rcases f2 with f2 | f2 <;> (obtain ⟨a, ea⟩ := f2 _ hm; rw [ea] at h ⊢; simpa [isInt] using h)
  · exact h.elim
end FL
set_option Elab.async false
set_option linter.all false
set_option maxRecDepth 100000
set_option maxHeartbeats 400000
namespace FL
open PySem PySem.Spec PyProof.Rows L2 Evl
/-! ### what the laws draw -/
@[simp ↓] def g__law_well : Fn := fun ds M Q _ => match ds with
  | [.scr ns, .int k] => 0 ≤ k ∧ k ≤ 100000 ∧ ∀ a, M a = none → Q (.ptr a) (put M a .well)
  | _ => False
@[simp ↓] def g__law_take : Fn := fun ds M Q _ => match ds with
  | [.ptr a, .int n] => M a = some .well ∧ 0 < n ∧ n ≤ 4294967296 ∧ ∀ i, 0 ≤ i → i < n → Q (.int i) M
  | _ => False
@[simp ↓] def g__law_take0 : Fn := fun ds M Q _ => match ds with
  | [.ptr a, .int n] => ∃ x y c : Int, M a = some (.ml [.int x, .int y, .int c]) ∧ 0 ≤ y ∧ y < 4294967296 ∧ 0 < c ∧ c < 4294967296 ∧ 0 < n ∧ n ≤ 4294967296 ∧ ∀ i x y, 0 ≤ i → i < n → 0 ≤ y → y < 4294967296 → Q (.int i) (put M a (.ml [.int x, .int y, .int c]))
  | _ => False
/- _law_well: 0 _law_script 1 _law_k 2 _law_cell 3 _law_primes 4 _law_seed -/
abbrev N__law_well : List Str := ["_law_script", "_law_k", "_law_cell", "_law_primes", "_law_seed"]
def w__law_well : SS := (sSeq (sAsg (gSlot 2) (wC (.int 0)))
(sSeq (sIf (wTest (w2 sLt (wSlot 1) (wF sLen (aCons (wSlot 0) aNil))))
 (sSeq (sAsg (gSlot 2) (w2 sSub1 (wSlot 0) (wSlot 1)))
sNil)
 sNil)
(sSeq (sAsg (gSlot 3) (wF (sLst false) (aCons (wC (.int 2147483647)) (aCons (wC (.int 2147483629)) (aCons (wC (.int 2147483587)) (aCons (wC (.int 2147483579)) (aCons (wC (.int 2147483563)) (aCons (wC (.int 2147483549)) (aCons (wC (.int 2147483543)) (aCons (wC (.int 2147483497)) aNil))))))))))
(sSeq (sAsg (gSlot 4) (w2 sMod (w2 (sMulA false) (w2 (sAdd false) (w2 sMod (wSlot 2) (wC (.int 2147483489))) (wC (.int 1))) (w2 (sAdd false) (wC (.int 48271)) (w2 (sMulA false) (wC (.int 2)) (wSlot 1)))) (wC (.int 2147483489))))
(sSeq (sAsg (gSlot 4) (w2 (sAdd false) (w2 (sAdd false) (w2 sMod (w2 (sMulA false) (wSlot 4) (wSlot 4)) (wC (.int 2147483477))) (wSlot 1)) (wC (.int 1))))
(sSeq (sIf (wTest (w2 sGe (wSlot 2) (w2 sPow (wC (.int 10)) (wC (.int 18)))))
 (sSeq (sRet (wF (sLst true) (aCons (wSlot 2) (aCons (wSlot 4) (aCons (w2 sSub1 (wSlot 3) (w2 sMod (wSlot 1) (wC (.int 8)))) aNil)))))
sNil)
 sNil)
(sSeq (sRet (wF (sLst true) (aCons (wC (.int 0)) (aCons (wSlot 4) (aCons (w2 sSub1 (wSlot 3) (w2 sMod (wSlot 1) (wC (.int 8)))) aNil)))))
sNil)))))))
/- _law_take: 0 _law_well_here 1 _law_many 2 _law_got -/
abbrev N__law_take : List Str := ["_law_well_here", "_law_many", "_law_got"]
def w__law_take : SS := (sSeq (sIf (wTest (w2 sGt (w2 sSub1 (wSlot 0) (wC (.int 0))) (wC (.int 0))))
 (sSeq (sAsg (gSlot 2) (w2 sMod (w2 sSub1 (wSlot 0) (wC (.int 0))) (wSlot 1)))
(sSeq (sAsg (gPut (wSlot 0) (wC (.int 0))) (w2 sDiv (w2 sSub1 (wSlot 0) (wC (.int 0))) (wSlot 1)))
(sSeq (sRet (wSlot 2))
sNil)))
 sNil)
(sSeq (sAsg (gPut (wSlot 0) (wC (.int 1))) (w2 (sAdd false) (w2 sMod (w2 (sMulA false) (w2 sSub1 (wSlot 0) (wC (.int 1))) (wC (.int 48271))) (w2 sSub1 (wSlot 0) (wC (.int 2)))) (wC (.int 1))))
(sSeq (sRet (w2 sMod (w2 sDiv (w2 sMod (w2 (sMulA false) (w2 sSub1 (wSlot 0) (wC (.int 1))) (w2 sSub1 (wSlot 0) (wC (.int 1)))) (wC (.int 2147483423))) (wC (.int 7))) (wSlot 1)))
sNil)))
theorem log_lt {n : Int} (h : 0 < n) (h2 : n ≤ 4294967296) : n.natAbs.log2 < 9000 := by
  have : n.natAbs ≠ 0 := by omega
  have := (Nat.log2_lt this (k := 40)).mpr (by omega)
  omega
theorem p__law_take0 : Imp g__law_take0 (defW N__law_take w__law_take) := by
  intro ds M Q X h
  unfold g__law_take0 at h
  split at h
  · rename_i a n
    obtain ⟨x, y, c, hm, hy0, hy1, hc0, hc1, hn0, hn1, h⟩ := h
    simp [↓defW, env0, ↓w__law_take, hm, viewL_ptr hm, viewD_ptrL hm]
    split
    · refine ⟨hn0, ⟨hn0, log_lt hn0 hn1⟩, ?_⟩
      exact dropQ.self (h _ _ _ (Int.emod_nonneg _ (by omega)) (Int.emod_lt_of_pos _ hn0) hy0 hy1)
    · have e1 := Int.emod_nonneg (y * 48271) (show c ≠ 0 by omega)
      have e2 := Int.emod_lt_of_pos (y * 48271) hc0
      generalize hz : y * 48271 % c + 1 = z
      refine ⟨.inl (.inr ⟨by decide, by decide⟩), hc0, .inl (.inl ⟨by omega, by omega⟩), ⟨by decide, by decide⟩, hn0, ?_⟩
      exact dropQ.self (h _ _ _ (Int.emod_nonneg _ (by omega)) (Int.emod_lt_of_pos _ hn0) (by omega) (by omega))
  · exact h.elim
theorem p__law_take : ∀ ds M Q X, g__law_take ds M Q X → ∃ a, M a = some .well ∧ ∀ x y c : Int, 0 ≤ y → y < 4294967296 → 0 < c → c < 4294967296 → g__law_take0 ds (put M a (.ml [.int x, .int y, .int c])) (dropQ Q) (dropQ X) := by
  intro ds M Q X h
  unfold g__law_take at h
  split at h
  · rename_i a n
    obtain ⟨hm, h0, h1, h⟩ := h
    refine ⟨a, hm, fun x y c y0 y1 c0 c1 => ⟨x, y, c, put_same, y0, y1, c0, c1, h0, h1, fun i x' y' i0 i1 y0' y1' => ?_⟩⟩
    rw [put_put]
    have e : put M a .well = M := funext fun b => by
      by_cases hb : b = a
      · rw [hb, put_same, hm]
      · rw [put_ne hb]
    have := Le.put (a := a) (Le.refl (M := M)) (m := .well) (m' := .ml [.int x', .int y', .int c]) (.inr ⟨rfl, x', y', c, rfl, y0', y1', c0, c1⟩)
    rw [e] at this
    exact ⟨M, this, h i i0 i1⟩
  · exact h.elim
theorem primes_at (k : Int) (h : 0 ≤ k) : ∃ c : Int, atI [D.int 2147483647, D.int 2147483629, D.int 2147483587, D.int 2147483579, D.int 2147483563, D.int 2147483549, D.int 2147483543, D.int 2147483497] (k % 8) = some (.int c) ∧ 0 < c ∧ c < 4294967296 := by
  obtain ⟨d, hd, e⟩ := atI_pick (ds := [D.int 2147483647, D.int 2147483629, D.int 2147483587, D.int 2147483579, D.int 2147483563, D.int 2147483549, D.int 2147483543, D.int 2147483497]) (i := k % 8) (by omega) (by simp; omega)
  rw [e]
  simp at hd
  rcases hd with rfl | rfl | rfl | rfl | rfl | rfl | rfl | rfl <;> exact ⟨_, rfl, by decide, by decide⟩
theorem p__law_well : Imp g__law_well (defW N__law_well w__law_well) := by
  intro ds M Q X h
  unfold g__law_well at h
  split at h
  · rename_i ns k
    obtain ⟨h0, h1, h⟩ := h
    have h' : ∀ x y c a, 0 ≤ y → y < 4294967296 → 0 < c → c < 4294967296 → M a = none → dropQ Q (.ptr a) (put M a (.ml [.int x, .int y, .int c])) := fun x y c a h1 h2 h3 h4 ha => ⟨_, Le.put Le.refl (.inr ⟨rfl, x, y, c, rfl, h1, h2, h3, h4⟩), h a ha⟩
    obtain ⟨c, hc, c0, c1⟩ := primes_at k h0
    simp [↓defW, env0, ↓w__law_well]
    have b2 : CMul 2 k := .inl ⟨by decide, by decide⟩
    have fin : ∀ x s : Int, 0 ≤ s → s < 2147483489 → (CMul s s) ∧ ∀ a, M a = none → dropQ Q (.ptr a) (put M a (.ml [.int x, .int (s * s % 2147483477 + k + 1), .int c])) := fun x s s0 s1 => by
      refine ⟨.inl ⟨by omega, by omega⟩, fun a ha => h' _ _ _ _ ?_ ?_ c0 c1 ha⟩
      · have := Int.emod_nonneg (s * s) (show (2147483477 : Int) ≠ 0 by decide); omega
      · have := Int.emod_lt_of_pos (s * s) (show (0 : Int) < 2147483477 by decide); omega
    have b18 : CPow 10 18 := ⟨by decide, by decide, by decide⟩
    split
    · rename_i hk
      obtain ⟨n, hn⟩ : ∃ n, atI ns k = some n := by
        obtain ⟨m, rfl⟩ := Int.eq_ofNat_of_zero_le h0
        exact ⟨_, atI_nat (List.getElem?_eq_getElem (by omega))⟩
      generalize hs : (n % 2147483489 + 1) * (48271 + 2 * k) % 2147483489 = s
      have s0 : 0 ≤ s := by rw [← hs]; exact Int.emod_nonneg _ (by decide)
      have s1 : s < 2147483489 := by rw [← hs]; exact Int.emod_lt_of_pos _ (by decide)
      obtain ⟨f1, f2⟩ := fin n s s0 s1
      obtain ⟨_, f3⟩ := fin 0 s s0 s1
      refine ⟨n, hn, .inl b2, .inl (.inl ⟨by omega, by omega⟩), ?_⟩
      rw [hs]
      refine ⟨.inl f1, b18, ?_⟩
      split
      · exact ⟨_, hc, f2⟩
      · exact ⟨_, hc, f3⟩
    · generalize hs : (48271 + 2 * k) % 2147483489 = s
      have s0 : 0 ≤ s := by rw [← hs]; exact Int.emod_nonneg _ (by decide)
      have s1 : s < 2147483489 := by rw [← hs]; exact Int.emod_lt_of_pos _ (by decide)
      obtain ⟨f1, f2⟩ := fin 0 s s0 s1
      exact ⟨.inl b2, .inl (.inl ⟨by decide, by decide⟩), .inl f1, b18, _, hc, f2⟩
  · exact h.elim
end FL
set_option Elab.async false
set_option linter.all false
set_option maxRecDepth 100000
set_option maxHeartbeats 400000
namespace FL
open PySem PySem.Spec PyProof.Rows L2 Evl
/-- small letters -/
def Letters (z : Str) : Prop := ∀ c ∈ z.cps.toList, 97 ≤ c ∧ c ≤ 122
def GoodW (z : Str) : Prop := 1 ≤ z.length ∧ z.length ≤ 8 ∧ Letters z
theorem letters_of : ∀ rs : List D, (∀ r ∈ rs, ∃ c : Nat, r = .str ⟨#[c]⟩ ∧ 97 ≤ c ∧ c ≤ 122) → ∃ zs : List Str, D.lst rs = .lst (zs.map .str) ∧ zs.length = rs.length ∧ ∀ z ∈ zs, ∃ c : Nat, z = ⟨#[c]⟩ ∧ 97 ≤ c ∧ c ≤ 122 := by
  intro rs h
  have : ∃ zs : List Str, rs = zs.map .str ∧ ∀ z ∈ zs, ∃ c : Nat, z = ⟨#[c]⟩ ∧ 97 ≤ c ∧ c ≤ 122 := by
    induction rs with
    | nil => exact ⟨[], rfl, fun z hz => nomatch hz⟩
    | cons r t ih =>
      obtain ⟨zs, e, hz⟩ := ih fun r hr => h r (List.mem_cons_of_mem _ hr)
      obtain ⟨c, e2, hc⟩ := h r List.mem_cons_self
      refine ⟨⟨#[c]⟩ :: zs, by rw [e, e2]; rfl, fun z hz2 => ?_⟩
      rcases List.mem_cons.mp hz2 with rfl | hz2
      · exact ⟨c, rfl, hc⟩
      · exact hz z hz2
  obtain ⟨zs, rfl, hz⟩ := this
  exact ⟨zs, rfl, by simp, hz⟩
theorem joined : ∀ zs : List Str, (∀ z ∈ zs, ∃ c : Nat, z = ⟨#[c]⟩ ∧ 97 ≤ c ∧ c ≤ 122) → ((zs.map (·.length)).sum = zs.length ∧ (Txt.join "" zs).length = zs.length) ∧ Letters (Txt.join "" zs) := by
  intro zs h
  have go : ∀ zs : List Str, (Str.join "" zs).cps.toList = zs.flatMap fun z => z.cps.toList := by
    intro zs
    induction zs with
    | nil => rfl
    | cons z t ih =>
      cases t with
      | nil => show z.cps.toList = _; simp
      | cons z2 t =>
        show (z ++ "" ++ Str.join "" (z2 :: t)).cps.toList = _
        rw [show (z ++ ("" : Str) ++ Str.join "" (z2 :: t)).cps = z.cps ++ (("" : Str).cps) ++ (Str.join "" (z2 :: t)).cps from rfl, Array.toList_append, Array.toList_append, ih]
        rw [show (("" : Str).cps).toList = [] from rfl, List.append_nil]
        rfl
  have e : Txt.join "" zs = Str.join "" zs := StrLaws.glued_eq_join ..
  rw [e]
  have lets : (zs.map (·.length)).sum = zs.length ∧ (zs.flatMap fun z => z.cps.toList).length = zs.length ∧ ∀ c ∈ zs.flatMap fun z => z.cps.toList, 97 ≤ c ∧ c ≤ 122 := by
    clear go e
    induction zs with
    | nil => exact ⟨rfl, rfl, fun c hc => nomatch hc⟩
    | cons z t ih =>
      obtain ⟨c, rfl, hc⟩ := h z List.mem_cons_self
      obtain ⟨i1, i2, i3⟩ := ih fun z hz => h z (List.mem_cons_of_mem _ hz)
      refine ⟨?_, ?_, fun d hd => ?_⟩
      · rw [List.map_cons, List.sum_cons, i1, List.length_cons]
        show 1 + _ = _
        omega
      · rw [List.flatMap_cons, List.length_append, i2]
        show 1 + t.length = t.length + 1
        omega
      · rw [List.flatMap_cons, List.mem_append] at hd
        rcases hd with hd | hd
        · have : d = c := by simpa using hd
          rw [this]; exact hc
        · exact i3 d hd
  refine ⟨⟨lets.1, ?_⟩, fun c hc => lets.2.2 c (by rw [← go]; exact hc)⟩
  rw [← lets.2.1, ← go]
  simp [Str.length]
theorem letters_ok {z : Str} (h : Letters z) : PyData.strOk z = true := by
  unfold PyData.strOk
  rw [← Array.all_toList, List.all_eq_true]
  intro c hc
  exact decide_eq_true (by have := h c hc; omega)

theorem putD_len (kvs : List (Key × D)) (k : Key) (d : D) : (putD kvs k d).length ≤ kvs.length + 1 := by
  unfold putD; split
  · rw [List.length_map]; omega
  · rw [List.length_append]; exact Nat.le_refl _
theorem putD_key {kvs : List (Key × D)} {k j : Key} {d : D} (h : j ∈ (putD kvs k d).map (·.1)) : j ∈ kvs.map (·.1) ∨ j = k := by
  unfold putD at h; split at h
  · left
    rw [List.map_map] at h
    obtain ⟨p, hp, e⟩ := List.mem_map.mp h
    refine List.mem_map.mpr ⟨p, hp, ?_⟩
    rw [← e]; show p.1 = (if p.1 = k then (p.1, d) else p).1
    split <;> rfl
  · rw [List.map_append] at h
    rcases List.mem_append.mp h with h | h
    · exact .inl h
    · exact .inr (by simpa using h)
theorem keys_put (kvs : List (Key × D)) (q : Key) (d : D) : (putD kvs q d).map (·.1) = stepK (kvs.map (·.1)) q := by
  unfold putD stepK
  have e : ((kvs.map (·.1)).any fun x => decide (x = q)) = (kvs.any fun kv => decide (kv.1 = q)) := by rw [List.any_map]; rfl
  rw [e]
  split
  · rw [List.map_map]
    refine List.map_congr_left fun kv _ => ?_
    show (if kv.1 = q then (kv.1, d) else kv).1 = kv.1
    split <;> rfl
  · rw [List.map_append]; rfl
theorem stepK_nd {l : List Key} (h : l.Nodup) (k : Key) : (stepK l k).Nodup := by
  unfold stepK
  split
  · exact h
  · rename_i hk
    rw [List.nodup_append]
    refine ⟨h, by simp, fun a ha b hb => ?_⟩
    rw [List.mem_singleton.mp hb]
    rintro rfl
    exact hk (List.any_eq_true.mpr ⟨a, ha, decide_eq_true rfl⟩)
theorem stepK_some (l : List Key) (k : Key) : 0 < (stepK l k).length := by
  unfold stepK
  split
  · rename_i hk
    obtain ⟨x, hx, _⟩ := List.any_eq_true.mp hk
    exact List.length_pos_of_mem hx
  · rw [List.length_append]; exact Nat.succ_pos _
theorem putD_nd {kvs : List (Key × D)} (h : (kvs.map (·.1)).Nodup) (q : Key) (d : D) : ((putD kvs q d).map (·.1)).Nodup := by rw [keys_put]; exact stepK_nd h q
theorem putD_some (kvs : List (Key × D)) (q : Key) (d : D) : 0 < (putD kvs q d).length := by
  have := stepK_some (kvs.map (·.1)) q
  rwa [← keys_put kvs q d, List.length_map] at this
theorem nodup_inr {zs : List Str} (h : (zs.map (Sum.inr : Str → Key)).Nodup) : zs.Nodup := (List.pairwise_map.mp h).imp fun h e => h (by rw [e])
theorem nodup_inl {zs : List Int} (h : (zs.map (Sum.inl : Int → Key)).Nodup) : zs.Nodup := (List.pairwise_map.mp h).imp fun h e => h (by rw [e])
theorem keys_inr : ∀ {ks : List Key}, (∀ q ∈ ks, ∃ z, q = Sum.inr z ∧ GoodW z) → ∃ zs : List Str, ks = zs.map Sum.inr ∧ ∀ z ∈ zs, GoodW z
  | [], _ => ⟨[], rfl, fun _ h => nomatch h⟩
  | q :: r, h => by
    obtain ⟨zs, e, hz⟩ := keys_inr (ks := r) fun q hq => h q (List.mem_cons_of_mem _ hq)
    obtain ⟨z, e2, hg⟩ := h q List.mem_cons_self
    exact ⟨z :: zs, by rw [e, e2]; rfl, fun y hy => (List.mem_cons.mp hy).elim (fun e => e ▸ hg) (hz y)⟩
theorem keys_inl : ∀ {ks : List Key}, (∀ q ∈ ks, ∃ i : Int, q = Sum.inl i ∧ 0 ≤ i ∧ i < 100) → ∃ zs : List Int, ks = zs.map Sum.inl ∧ ∀ z ∈ zs, 0 ≤ z ∧ z < 100
  | [], _ => ⟨[], rfl, fun _ h => nomatch h⟩
  | q :: r, h => by
    obtain ⟨zs, e, hz⟩ := keys_inl (ks := r) fun q hq => h q (List.mem_cons_of_mem _ hq)
    obtain ⟨z, e2, hg⟩ := h q List.mem_cons_self
    exact ⟨z :: zs, by rw [e, e2]; rfl, fun y hy => (List.mem_cons.mp hy).elim (fun e => e ▸ hg) (hz y)⟩
/-- data of bounded depth, all of it of at most so many -/
inductive NB (b : Nat) : Nat → D → Prop
  | non {n} : NB b n .non
  | bl {n x} : NB b n (.bl x)
  | int {n i} : NB b n (.int i)
  | str {n z} : z.length ≤ b → NB b n (.str z)
  | tup {n ds} : ds.length ≤ b → (∀ d ∈ ds, NB b n d) → NB b (n + 1) (.tup ds)
  | lst {n ds} : ds.length ≤ b → (∀ d ∈ ds, NB b n d) → NB b (n + 1) (.lst ds)
theorem NB.mono {b b' : Nat} (hb : b ≤ b') {n : Nat} {d : D} (h : NB b n d) : ∀ {n'}, n ≤ n' → NB b' n' d := by
  induction h with
  | non => exact fun _ => .non
  | bl => exact fun _ => .bl
  | int => exact fun _ => .int
  | str h1 => exact fun _ => .str (by omega)
  | tup h1 h2 ih =>
    intro n' hn
    obtain ⟨m, rfl⟩ : ∃ m, n' = m + 1 := ⟨n' - 1, by omega⟩
    exact .tup (by omega) fun d hd => ih d hd (by omega)
  | lst h1 h2 ih =>
    intro n' hn
    obtain ⟨m, rfl⟩ : ∃ m, n' = m + 1 := ⟨n' - 1, by omega⟩
    exact .lst (by omega) fun d hd => ih d hd (by omega)
theorem NB.items {b n : Nat} {ds : List D} (h : NB b n (.tup ds)) : ∃ m, n = m + 1 ∧ ds.length ≤ b ∧ ∀ d ∈ ds, NB b m d := by
  cases h with
  | tup h1 h2 => exact ⟨_, rfl, h1, h2⟩
theorem NB.itemsL {b n : Nat} {ds : List D} (h : NB b n (.lst ds)) : ∃ m, n = m + 1 ∧ ds.length ≤ b ∧ ∀ d ∈ ds, NB b m d := by
  cases h with
  | lst h1 h2 => exact ⟨_, rfl, h1, h2⟩
theorem NB.str' {b n : Nat} {z : Str} (h : NB b n (.str z)) : z.length ≤ b := by
  cases h with
  | str h1 => exact h1
theorem NB.pure {b n : Nat} {d : D} (h : NB b n d) : FL.pure d = true := by
  induction h with
  | tup _ _ ih => rw [pure_tup, List.all_eq_true]; exact ih
  | lst _ _ ih => rw [pure_lst, List.all_eq_true]; exact ih
  | _ => rfl
theorem deps_le {n : Nat} : ∀ {ds : List D}, (∀ d ∈ ds, dep d ≤ n) → deps ds ≤ n
  | [], _ => Nat.zero_le _
  | d :: r, h => by
    have h1 := h d List.mem_cons_self
    have h2 := deps_le (ds := r) fun e he => h e (List.mem_cons_of_mem _ he)
    rw [deps_cons]; omega
theorem NB.dep {b n : Nat} {d : D} (h : NB b n d) : FL.dep d ≤ n := by
  induction h with
  | tup _ _ ih => rw [dep_tup]; exact Nat.succ_le_succ (deps_le ih)
  | lst _ _ ih => rw [dep_lst]; exact Nat.succ_le_succ (deps_le ih)
  | _ => exact Nat.zero_le _
theorem NB.few {b n : Nat} {d : D} (h : NB b n d) (hb : b ≤ 100000) : match d with
  | .tup xs => xs.length ≤ 100000
  | .lst xs => xs.length ≤ 100000
  | _ => True := by
  cases h <;> first | trivial | (simp; omega)
theorem GoodW.nb {z : Str} (h : GoodW z) {b n : Nat} (hb : 8 ≤ b) : NB b n (.str z) := .str (by have := h.2.1; omega)
end FL
set_option Elab.async false
set_option linter.all false
set_option maxRecDepth 100000
set_option maxHeartbeats 400000
namespace FL
open PySem PySem.Spec PyProof.Rows L2 Evl
structure GoodC (l : Int) (c : Cl) : Prop where
  name : GoodW c.1
  some : 1 ≤ c.2.length
  most : (c.2.length : Int) ≤ l
  vals : (∃ ns : List Int, c.2 = ns.map .int ∧ (∀ n ∈ ns, 0 ≤ n ∧ n < 100) ∧ ns.Pairwise (· ≤ ·) ∧ ns.Nodup) ∨ ∃ zs : List Str, c.2 = zs.map .str ∧ (∀ z ∈ zs, GoodW z) ∧ sortedS zs = true ∧ zs.Nodup
structure GoodCs (m l : Int) (cl : List Cl) : Prop where
  some : 1 ≤ cl.length
  most : (cl.length : Int) ≤ m
  apart : (cl.map (·.1)).Nodup
  each : ∀ c ∈ cl, GoodC l c
theorem GoodC.mono {l l' : Int} {c : Cl} (h : GoodC l c) (hl : l ≤ l') : GoodC l' c := ⟨h.name, h.some, by have := h.most; omega, h.vals⟩
theorem GoodCs.mono {m m' l l' : Int} {cl : List Cl} (h : GoodCs m l cl) (hm : m ≤ m') (hl : l ≤ l') : GoodCs m' l' cl := ⟨h.some, by have := h.most; omega, h.apart, fun c hc => (h.each c hc).mono hl⟩
@[simp ↓] def g__law_word : Fn := fun ds M Q _ => match ds with
  | [.ptr a] => M a = some .well ∧ ∀ z, GoodW z → Q (.str z) M
  | _ => False
@[simp ↓] def g__law_columns : Fn := fun ds M Q _ => match ds with
  | [.ptr a, .int m, .int l] => M a = some .well ∧ 0 < m ∧ m ≤ 50 ∧ 0 < l ∧ l ≤ 50 ∧ ∀ cs, GoodCs m l cs → Q (colsD cs) M
  | _ => False
@[simp ↓] def g__law_some : Fn := fun ds M Q _ => match ds with
  | [.ptr a, .tup xs] => M a = some .well ∧ 1 ≤ xs.length ∧ xs.length ≤ 60 ∧ pures xs = true ∧ deps xs ≤ 60 ∧ ∀ ys : List D, ys.Sublist xs → 1 ≤ ys.length → Q (.tup ys) M
  | _ => False
@[simp ↓] def g__law_span : Fn := fun ds M Q _ => match ds with
  | [.ptr a, .int m] => M a = some .well ∧ 0 ≤ m ∧ m ≤ 100000 ∧ ∀ i j : Int, 0 ≤ i → i ≤ j → j ≤ m → Q (.tup [.int i, .int j]) M
  | _ => False
/- _law_word: 0 _law_well_here 1 _law_signs 2 _law_many 3 _law_k -/
abbrev N__law_word : List Str := ["_law_well_here", "_law_signs", "_law_many", "_law_k"]
def w__law_word : SS := (sSeq (sAsg (gSlot 1) (wC (.str "abcdefghijklmnopqrstuvwxyz")))
(sSeq (sAsg (gSlot 2) (w2 sSub1 (wF (sLst false) (aCons (wC (.int 1)) (aCons (wC (.int 1)) (aCons (wC (.int 2)) (aCons (wC (.int 8)) aNil))))) (wCall 2 g__law_take (aCons (wSlot 0) (aCons (wC (.int 4)) aNil)))))
(sSeq (sRet (wM "str" mJoin (wC (.str "")) (aCons (wLc false (wRange1 (aCons (wSlot 2) aNil)) (asT1 3) [3] tTrue (w2 sSub1 (wSlot 1) (wCall 2 g__law_take (aCons (wSlot 0) (aCons (wC (.int 26)) aNil))))) aNil)))
sNil)))
/- _law_columns: 0 _law_well_here 1 _law_most 2 _law_longest 3 _law_names 4 _law_k 5 _law_columns_here 6 _law_name 7 _law_values 8 _law_kind 9 _law_far -/
abbrev N__law_columns : List Str := ["_law_well_here", "_law_most", "_law_longest", "_law_names", "_law_k", "_law_columns_here", "_law_name", "_law_values", "_law_kind", "_law_far"]
def w__law_columns : SS := (sSeq (sAsg (gSlot 3) wNewD)
(sSeq (sFor (wRange1 (aCons (w2 (sAdd false) (wC (.int 1)) (wCall 2 g__law_take (aCons (wSlot 0) (aCons (wSlot 1) aNil)))) aNil)) (gSlot 4)
 (sSeq (sAsg (gPut (wSlot 3) (wCall 1 g__law_word (aCons (wSlot 0) aNil))) (wC (.bl true)))
sNil))
(sSeq (sAsg (gSlot 5) (wF (sLst true) aNil))
(sSeq (lockIt 3 (sFor (wIt (wSlot 3)) (gSlot 6)
 (sSeq (sAsg (gSlot 7) wNewD)
(sSeq (sAsg (gSlot 8) (wCall 2 g__law_take (aCons (wSlot 0) (aCons (wC (.int 3)) aNil))))
(sSeq (sAsg (gSlot 9) (w2 sSub1 (wF (sLst false) (aCons (wC (.int 5)) (aCons (wC (.int 9)) (aCons (wC (.int 100)) aNil)))) (wCall 2 g__law_take (aCons (wSlot 0) (aCons (wC (.int 3)) aNil)))))
(sSeq (sFor (wRange1 (aCons (w2 (sAdd false) (wC (.int 1)) (wCall 2 g__law_take (aCons (wSlot 0) (aCons (wSlot 2) aNil)))) aNil)) (gSlot 4)
 (sSeq (sAsg (gPut (wSlot 7) (w2 sSub1 (wF (sLst false) (aCons (wCall 1 g__law_word (aCons (wSlot 0) aNil)) (aCons (wCall 2 g__law_take (aCons (wSlot 0) (aCons (wSlot 9) aNil))) (aCons (wCall 2 g__law_take (aCons (wSlot 0) (aCons (wSlot 9) aNil))) aNil)))) (wSlot 8))) (wC (.bl true)))
sNil))
(sSeq (sExpr (wM "list" mAppend (wSlot 5) (aCons (wF sTup (aCons (wSlot 6) (aCons (wF sTuple (aCons (wF (sSortedA false) (aCons (wSlot 7) aNil)) aNil)) aNil))) aNil)))
sNil)))))))
(sSeq (sRet (wF sTuple (aCons (wSlot 5) aNil)))
sNil)))))
/- _law_some: 0 _law_well_here 1 _law_values 2 _law_some_here 3 _law_value -/
abbrev N__law_some : List Str := ["_law_well_here", "_law_values", "_law_some_here", "_law_value"]
def w__law_some : SS := (sSeq (sAsg (gSlot 2) (wF sTuple (aCons (wLc false (wIt (wSlot 1)) (asT1 3) [3] (wTest (w2 (sEq false) (wCall 2 g__law_take (aCons (wSlot 0) (aCons (wC (.int 2)) aNil))) (wC (.int 0)))) (wSlot 3)) aNil)))
(sSeq (sRet (wIf (wTest (w2 (sEq true) (wSlot 2) (wF sTup aNil))) (wSlot 2) (wCut false (wSlot 1) none (some (wC (.int 1))))))
sNil))
/- _law_span: 0 _law_well_here 1 _law_most 2 _law_low -/
abbrev N__law_span : List Str := ["_law_well_here", "_law_most", "_law_low"]
def w__law_span : SS := (sSeq (sAsg (gSlot 2) (w2 sSub1 (wF (sLst false) (aCons (wC (.int 0)) (aCons (wCall 2 g__law_take (aCons (wSlot 0) (aCons (w2 (sAdd false) (wSlot 1) (wC (.int 1))) aNil))) aNil))) (wCall 2 g__law_take (aCons (wSlot 0) (aCons (wC (.int 2)) aNil)))))
(sSeq (sRet (wF sTup (aCons (wSlot 2) (aCons (w2 (sAdd false) (wSlot 2) (wCall 2 g__law_take (aCons (wSlot 0) (aCons (w2 sSub (w2 (sAdd false) (wSlot 1) (wC (.int 1))) (wSlot 2)) aNil)))) aNil))))
sNil))
theorem p__law_word : Imp g__law_word (defW N__law_word w__law_word) := by
  intro ds M Q X h
  unfold g__law_word at h
  split at h
  · rename_i a
    obtain ⟨hm, h⟩ := h
    simp [↓defW, env0, ↓w__law_word, hm]
    intro i hi0 hi1
    obtain ⟨d, hd, e⟩ := atI_pick (ds := [D.int 1, D.int 1, D.int 2, D.int 8]) (i := i) hi0 (by simp; omega)
    refine ⟨d, e, ?_⟩
    obtain ⟨n, rfl, n1, n8⟩ : ∃ n : Int, d = .int n ∧ 1 ≤ n ∧ n ≤ 8 := by
      simp at hd
      rcases hd with rfl | rfl | rfl | rfl <;> exact ⟨_, rfl, by decide, by decide⟩
    refine wLc_each (fun r => ∃ c : Nat, r = .str ⟨#[c]⟩ ∧ 97 ≤ c ∧ c ≤ 122) (ds := upFrom 0 n.toNat) (fun R q => by simp; exact ⟨by omega, by omega, q⟩) (by rw [upFrom_len]; omega) (fun d M' RT hd hs hT => ⟨_, rfl, ?_⟩) (fun acc hl ha => ?_)
    · simp [wipeE, hs _ _ hm]
      intro j j0 j1
      obtain ⟨c, hc, e⟩ := atI_pick (ds := (Str.ofString "abcdefghijklmnopqrstuvwxyz").cps.toList) (i := j) j0 (by rw [show (Str.ofString "abcdefghijklmnopqrstuvwxyz").cps.toList.length = 26 from by decide +kernel]; omega)
      exact ⟨by decide +kernel, c, e, hT _ ⟨c, rfl, (by decide +kernel : ∀ c ∈ (Str.ofString "abcdefghijklmnopqrstuvwxyz").cps.toList, 97 ≤ c ∧ c ≤ 122) c hc⟩⟩
    · obtain ⟨zs, e, hl2, hz⟩ := letters_of acc ha
      cases e
      obtain ⟨⟨s1, s2⟩, s3⟩ := joined zs hz
      have hn : zs.length = n.toNat := by rw [← hl2] at hl2; rw [List.length_map, upFrom_len] at hl; exact hl
      refine ⟨zs, .inl rfl, ?_, letters_ok s3, dropQ.self (h _ ⟨?_, ?_, s3⟩)⟩
      · rw [s1]; have : (Str.ofString "").length = 0 := by decide +kernel
        rw [this]; omega
      · show 1 ≤ (Txt.join "" zs).length; rw [s2]; omega
      · show (Txt.join "" zs).length ≤ 8; rw [s2]; omega
  · exact h.elim
theorem p__law_span : Imp g__law_span (defW N__law_span w__law_span) := by
  intro ds M Q X h
  unfold g__law_span at h
  split at h
  · rename_i a m
    obtain ⟨hm, h0, h1, h⟩ := h
    simp [↓defW, env0, ↓w__law_span, hm]
    refine ⟨by omega, by omega, fun i i0 i1 j j0 j1 => ?_⟩
    obtain ⟨d, hd, e⟩ := atI_pick (ds := [D.int 0, D.int i]) (i := j) j0 (by simp; omega)
    refine ⟨d, e, ?_⟩
    have fin : ∀ k : Int, 0 ≤ k → k ≤ m → k < m + 1 ∧ m + 1 - k ≤ 4294967296 ∧ ∀ z : Int, 0 ≤ z → z < m + 1 - k → dropQ Q (D.tup [.int k, .int (k + z)]) M := fun k k0 k1 => ⟨by omega, by omega, fun z z0 z1 => dropQ.self (h _ _ k0 (by omega) (by omega))⟩
    simp at hd
    rcases hd with rfl | rfl
    · exact fin 0 (by omega) h0
    · exact fin i i0 (by omega)
  · exact h.elim
theorem p__law_some : Imp g__law_some (defW N__law_some w__law_some) := by
  intro ds M Q X h
  unfold g__law_some at h
  split at h
  · rename_i a m
    obtain ⟨hm, h0, h1, h2, h3, h⟩ := h
    simp [↓defW, env0, ↓w__law_some, hm]
    refine wLc_ind (fun i acc => acc.Sublist (m.take i)) (ds := m) (fun R q => by simpa using q) (by omega) (List.nil_sublist _) (fun i d acc M' RT RF hd q1 hs hT hF => ⟨_, rfl, ?_⟩) (fun acc q1 => ?_)
    · have e : m.take (i + 1) = m.take i ++ [d] := by rw [List.take_succ, hd]; rfl
      simp [wipeE, hs _ _ hm]
      intro j j0 j1
      split
      · exact hT _ (by rw [e]; exact q1.append (List.Sublist.refl _))
      · exact hF (by rw [e]; exact q1.trans (List.sublist_append_left _ _))
    · rw [List.take_length] at q1
      simp
      refine ⟨?_, ?_⟩
      · intro y hy
        rw [pures_all, List.all_eq_true] at h2
        exact h2 y (q1.subset hy)
      cases acc with
      | nil =>
        simp
        obtain ⟨d, r, rfl⟩ : ∃ d r, m = d :: r := by cases m with
          | nil => exact absurd h0 (by simp)
          | cons a b => exact ⟨a, b, rfl⟩
        exact dropQ.self (h _ (by simp) (by simp))
      | cons a b =>
        simp
        exact dropQ.self (h _ q1 (by simp))
  · exact h.elim
end FL
set_option Elab.async false
set_option linter.all false
set_option maxRecDepth 100000
set_option maxHeartbeats 400000
namespace FL
open PySem PySem.Spec PyProof.Rows L2 Evl
theorem p__law_columns : Imp g__law_columns (defW N__law_columns w__law_columns) := by
  intro ds M Q X h
  unfold g__law_columns at h
  split at h
  · rename_i a m l
    obtain ⟨hm, m0, m1, l0, l1, h⟩ := h
    simp [↓defW, env0, ↓w__law_columns, hm]
    intro p hp
    have pa : a ≠ p := ne_new hp hm
    simp [pa, hm]
    refine ⟨m0, by omega, fun i i0 i1 => ⟨by omega, by omega, ?_⟩⟩
    refine loopW_ind (fun n e mm => ∃ kvs s4, e = [some (D.ptr a), some (D.int m), some (D.int l), some (D.ptr p), s4, none, none, none, none, none] ∧ mm = put M p (.md kvs) ∧ kvs.length ≤ n ∧ (0 < n → 0 < kvs.length) ∧ (kvs.map (·.1)).Nodup ∧ ∀ q ∈ kvs.map (·.1), ∃ z, q = Sum.inr z ∧ GoodW z) ⟨[], none, rfl, rfl, Nat.le_refl _, fun z => absurd z (Nat.lt_irrefl _), List.nodup_nil, fun _ z => nomatch z⟩ (fun _ _ _ _ => trivial) ?_ ?_
    · rintro _ _ ⟨kvs, s4, rfl, rfl, k1, k2, k3, k4⟩
      rw [upFrom_len] at k1 k2
      simp
      intro q hq
      have pq : p ≠ q := ne_new hq put_same
      have qM : M q = none := by rwa [put_ne pq.symm] at hq
      simp [pq]
      refine loopW_ind (fun n e mm => ∃ cl s4 s6 s7 s8 s9, e = [some (D.ptr a), some (D.int m), some (D.int l), some (D.ptr p), s4, some (D.ptr q), s6, s7, s8, s9] ∧ mm p = some (.lk kvs) ∧ mm q = some (.ml (cl.map colD)) ∧ Sub M mm ∧ (cl.map fun c => (Sum.inr c.1 : Key)) = (kvs.map (·.1)).take n ∧ ∀ c ∈ cl, GoodC l c) ⟨[], _, _, _, _, _, rfl, put_same, by simp [pq.symm], ((Sub.refl.ext hp).ext qM).ext hp, rfl, fun _ z => nomatch z⟩ (fun n e mm ⟨_, _, _, _, _, _, _, z, _⟩ => z) ?_ ?_
      · rintro _ mm ⟨cl, s4, s6, s7, s8, s9, rfl, mp, mq, hs, hc, hg⟩
        rw [List.length_map, List.take_of_length_le (by simp)] at hc
        have hll : cl.length = kvs.length := by have := congrArg List.length hc; simpa using this
        refine ⟨mp, ?_⟩
        simp [viewL_ptr mq, viewL_putN pq.symm]
        refine dropQ.sub (hs.ext hp) (h cl ⟨by have := k2 (by omega); omega, by omega, ?_, hg⟩)
        rw [← hc] at k3
        refine nodup_inr ?_
        rw [List.map_map]; exact k3
      · rintro n d e mm K hd ⟨cl, s4, s6, s7, s8, s9, rfl, mp, mq, hs, hc, hg⟩ hnx hct hbk hrt hxx
        simp [hs _ _ hm]
        intro v hv
        have hva : a ≠ v := ne_new hv (hs _ _ hm)
        have hvp : p ≠ v := ne_new hv mp
        have hvq : q ≠ v := ne_new hv mq
        simp [hva, hs _ _ hm]
        have hn : n < kvs.length := by have := (List.getElem?_eq_some_iff.mp hd).1; rwa [List.length_map] at this
        obtain ⟨nm, rfl, hnm, hkn⟩ : ∃ nm, d = .str nm ∧ GoodW nm ∧ (kvs.map (·.1))[n]? = some (Sum.inr nm) := by
          rw [List.getElem?_map, List.getElem?_eq_getElem hn] at hd
          obtain ⟨z, e, g⟩ := k4 kvs[n].1 (List.mem_map.mpr ⟨_, List.getElem_mem hn, rfl⟩)
          have := Option.some.inj hd
          rw [← this]
          exact ⟨z, by show kD kvs[n].1 = _; rw [e]; rfl, g, by rw [List.getElem?_map, List.getElem?_eq_getElem hn]; exact congrArg some e⟩
        have hcl : cl.length ≤ n := by have := congrArg List.length hc; rw [List.length_map, List.length_take] at this; omega
        intro kind kd0 kd1 j j0 j1
        obtain ⟨d9, hd9, e9⟩ := atI_pick (ds := [D.int 5, D.int 9, D.int 100]) (i := j) j0 (by simp; omega)
        obtain ⟨far, rfl, f0, f1⟩ : ∃ far : Int, d9 = .int far ∧ 0 < far ∧ far ≤ 100 := by
          simp at hd9
          rcases hd9 with rfl | rfl | rfl <;> exact ⟨_, rfl, by decide, by decide⟩
        refine ⟨_, e9, l0, by omega, fun t t0 t1 => ⟨by omega, by omega, ?_⟩⟩
        have vM : M v = none := by
          cases hz : M v with
          | none => rfl
          | some u => rw [hs v u hz] at hv; cases hv
        refine loopW_ind (fun n2 e m2 => ∃ vals s4, e = [some (D.ptr a), some (D.int m), some (D.int l), some (D.ptr p), s4, some (D.ptr q), some (D.str nm), some (D.ptr v), some (D.int kind), some (D.int far)] ∧ m2 p = some (.lk kvs) ∧ m2 q = some (.ml (cl.map colD)) ∧ m2 v = some (.md vals) ∧ Sub M m2 ∧ vals.length ≤ n2 ∧
          (0 < n2 → 0 < vals.length) ∧ (vals.map (·.1)).Nodup ∧ (kind = 0 → ∀ q ∈ vals.map (·.1), ∃ z, q = Sum.inr z ∧ GoodW z) ∧ (kind ≠ 0 → ∀ q ∈ vals.map (·.1), ∃ i : Int, q = Sum.inl i ∧ 0 ≤ i ∧ i < 100)) ⟨[], s4, rfl, by simp [hvp, mp], by simp [hvq, mq], put_same, hs.ext vM, Nat.le_refl _, fun z => absurd z (Nat.lt_irrefl _), List.nodup_nil, (fun _ _ z => nomatch z), fun _ _ z => nomatch z⟩ (fun _ _ _ _ => trivial) ?_ ?_
        · rintro _ m2 ⟨vals, s4', rfl, mp2, mq2, mv2, hs2, v1, v2, v3, v4, v5⟩
          rw [upFrom_len] at v1 v2
          replace v2 := v2 (by omega)
          simp [and_assoc, viewD_ptr mv2, viewL_ptr mq2, viewL_ptrD mv2, mq2]
          have fin : ∀ vs : List D, GoodC l (nm, vs) → K (.nx [some (D.ptr a), some (D.int m), some (D.int l), some (D.ptr p), s4', some (D.ptr q), some (D.str nm), some (D.ptr v), some (D.int kind), some (D.int far)] (put m2 q (.ml (cl.map colD ++ [.tup [.str nm, .tup vs]])))) := fun vs hvs =>
            hnx _ _ ⟨cl ++ [(nm, vs)], _, _, _, _, _, rfl, by simp [pq, mp2], by simp [colD], hs2.ext qM, by rw [List.map_append, hc, List.take_succ, hkn]; rfl, fun c hc => by
              rcases List.mem_append.mp hc with hc | hc
              · exact hg c hc
              · rw [List.mem_singleton.mp hc]; exact hvs⟩
          by_cases hk : kind = 0
          · obtain ⟨zs, hz, hgz⟩ := keys_inr (v4 hk)
            have hzl : zs.length = vals.length := by have := congrArg List.length hz; simpa using this.symm
            have hzn : zs.Nodup := nodup_inr (by rw [← hz]; exact v3)
            refine .inl ⟨zs, hz, by omega, fun ys hp2 hsrt => ⟨by omega, fin _ ⟨hnm, ?_, ?_, .inr ⟨ys, rfl, fun z hz => hgz z (hp2.mem_iff.mp hz), hsrt, hp2.nodup_iff.mpr hzn⟩⟩⟩⟩
            · show 1 ≤ (ys.map D.str).length; rw [List.length_map, hp2.length_eq]; omega
            · show ((ys.map D.str).length : Int) ≤ l; rw [List.length_map, hp2.length_eq]; omega
          · obtain ⟨zs, hz, hgz⟩ := keys_inl (v5 hk)
            have hzl : zs.length = vals.length := by have := congrArg List.length hz; simpa using this.symm
            have hzn : zs.Nodup := nodup_inl (by rw [← hz]; exact v3)
            refine .inr ⟨zs, hz, by omega, fun ys hp2 hsrt => ⟨by omega, fin _ ⟨hnm, ?_, ?_, .inl ⟨ys, rfl, fun z hz => hgz z (hp2.mem_iff.mp hz), hsrt, hp2.nodup_iff.mpr hzn⟩⟩⟩⟩
            · show 1 ≤ (ys.map D.int).length; rw [List.length_map, hp2.length_eq]; omega
            · show ((ys.map D.int).length : Int) ≤ l; rw [List.length_map, hp2.length_eq]; omega
        · rintro n2 d2 _ m2 K2 hd2 ⟨vals, s4', rfl, mp2, mq2, mv2, hs2, v1, v2, v3, v4, v5⟩ hnx2 hct2 hbk2 hrt2 hxx2
          simp [and_assoc, hs2 _ _ hm, mv2]
          have hn2 : n2 < (1 + t).toNat := by have := (List.getElem?_eq_some_iff.mp hd2).1; rwa [upFrom_len] at this
          have fin : ∀ key, ((kind = 0 ∧ ∃ z, key = Sum.inr z ∧ GoodW z) ∨ (kind ≠ 0 ∧ ∃ i : Int, key = Sum.inl i ∧ 0 ≤ i ∧ i < 100)) → K2 (.nx [some (D.ptr a), some (D.int m), some (D.int l), some (D.ptr p), some d2, some (D.ptr q), some (D.str nm), some (D.ptr v), some (D.int kind), some (D.int far)] (put m2 v (.md (putD vals key (.bl true))))) := fun key hq =>
            hnx2 _ _ ⟨putD vals key (.bl true), _, rfl, by simp [hvp, mp2], by simp [hvq, mq2], put_same, hs2.ext vM, by have := putD_len vals key (.bl true); omega, fun _ => putD_some _ _ _, putD_nd v3 _ _, fun h0 q2 h2 => by
              rcases putD_key h2 with h3 | rfl
              · exact v4 h0 q2 h3
              · exact (hq.resolve_right fun z => z.1 h0).2, fun h0 q2 h2 => by
              rcases putD_key h2 with h3 | rfl
              · exact v5 h0 q2 h3
              · exact (hq.resolve_left fun z => h0 z.1).2⟩
          intro z hz
          refine ⟨f0, by omega, fun x x0 x1 => ⟨f0, by omega, fun y y0 y1 => ?_⟩⟩
          obtain h0 | h0 | h0 : kind = 0 ∨ kind = 1 ∨ kind = 2 := by omega
          · subst h0; exact ⟨_, atI_0, _, rfl, by omega, fin _ (.inl ⟨rfl, z, rfl, hz⟩)⟩
          · subst h0; exact ⟨_, atI_1, _, rfl, by omega, fin _ (.inr ⟨by decide, x, rfl, by omega⟩)⟩
          · subst h0; exact ⟨_, atI_2, _, rfl, by omega, fin _ (.inr ⟨by decide, y, rfl, by omega⟩)⟩
    · rintro n d e mm K hd ⟨kvs, s4, rfl, rfl, k1, k2, k3, k4⟩ hnx hct hbk hrt hxx
      simp [pa, hm, and_assoc]
      intro z hz
      have hn : n < (1 + i).toNat := by have := (List.getElem?_eq_some_iff.mp hd).1; rwa [upFrom_len] at this
      refine ⟨_, rfl, by omega, hnx _ _ ⟨_, _, rfl, rfl, ?_, fun _ => putD_some _ _ _, putD_nd k3 _ _, fun q2 h2 => ?_⟩⟩
      · have := putD_len kvs (.inr z) (.bl true); omega
      · rcases putD_key h2 with h3 | rfl
        · exact k4 q2 h3
        · exact ⟨z, rfl, hz⟩
  · exact h.elim
end FL
set_option Elab.async false
set_option linter.all false
set_option maxRecDepth 100000
set_option maxHeartbeats 4000000
namespace FL
open PySem PySem.Spec PyProof.Rows L2 Evl
/-! ### rowmint/rules.py: what rules are -/
def valsD (cs : List Cl) : D → List D
  | .str x => valsOf cs x
  | _ => []
def areSome (vals : List D) (d : D) : Bool := match d with
  | .tup xs => !xs.isEmpty && xs.all (isValue vals) && rise xs
  | _ => false
def isOfTwo (cs : List Cl) (w x : Str) (d : D) : Bool := !eqD (.str x) d && hasCol cs d && (if w = "less" then numsD (valsOf cs x) && numsD (valsD cs d) else decide (w = "lead") || (numsD (valsOf cs x) == numsD (valsD cs d)))
def lens : List (Str × Int) := [("less", 3), ("same", 3), ("apart", 3), ("if", 5), ("only", 3), ("key", 2), ("rising", 2), ("sum", 4), ("share", 5), ("each", 2), ("held", 4), ("lead", 3)]
def isOfOne (cs : List Cl) (many : Int) (w x : Str) (xs : List D) : Bool :=
  if w = "only" then areSome (valsOf cs x) (nth xs 0) else
  if w = "sum" then numsD (valsOf cs x) && (match nth xs 0 with
    | .int lo => isWhole (.int lo) 0 999 && isWhole (nth xs 1) lo 999
    | _ => false) else
  if w = "share" then isValue (valsOf cs x) (nth xs 0) && (match nth xs 1 with
    | .int lo => isWhole (.int lo) 0 many && isWhole (nth xs 2) lo many
    | _ => false) else true
def isRule (cs : List Cl) (many : Int) (d : D) : Bool := match d with
  | .tup (.str w :: rest) => decide ((lens.lookup w).getD 0 = (rest.length : Int) + 1) &&
    (if w = "held" then isWhole (nth rest 0) 0 (many - 1) && hasCol cs (nth rest 1) && isValue (valsD cs (nth rest 1)) (nth rest 2) else
    (match nth rest 0 with
    | .str x => hasCol cs (.str x) && (
      if w = "if" then hasCol cs (nth rest 2) && !eqD (.str x) (nth rest 2) && isValue (valsOf cs x) (nth rest 1) && areSome (valsD cs (nth rest 2)) (nth rest 3) else
      if w = "less" ∨ w = "same" ∨ w = "apart" ∨ w = "lead" then isOfTwo cs w x (nth rest 1) else isOfOne cs many w x (rest.drop 1))
    | _ => false))
  | _ => false
/-- data that may be gone through: no pointers, short tuples and lists -/
def few (d : D) : Prop := match d with
  | .tup xs => xs.length ≤ 100000
  | .lst xs => xs.length ≤ 100000
  | _ => True
@[simp ↓] def g_are_some : Fn := fun ds M Q _ => match ds with
  | [c, .str x, d] => ∃ cs, c = colsD cs ∧ hasCol cs (.str x) = true ∧ Cols cs ∧ pure d = true ∧ few d ∧ Q (.bl (areSome (valsOf cs x) d)) M
  | _ => False
@[simp ↓] def g_is_of_two : Fn := fun ds M Q _ => match ds with
  | [c, .tup [.str w, .str x, d]] => ∃ cs, c = colsD cs ∧ hasCol cs (.str x) = true ∧ Cols cs ∧ pure d = true ∧ Q (.bl (isOfTwo cs w x d)) M
  | _ => False
@[simp ↓] def g_is_of_one : Fn := fun ds M Q _ => match ds with
  | [c, .int many, .tup (.str w :: .str x :: rest)] => ∃ cs, c = colsD cs ∧ hasCol cs (.str x) = true ∧ Cols cs ∧ (∀ d ∈ rest, pure d = true ∧ few d) ∧ (w = "only" → 1 ≤ rest.length) ∧ (w = "sum" → 2 ≤ rest.length) ∧ (w = "share" → 3 ≤ rest.length) ∧ Q (.bl (isOfOne cs many w x rest)) M
  | _ => False
@[simp ↓] def g_is_rule : Fn := fun ds M Q _ => match ds with
  | [c, .int many, d] => ∃ cs, c = colsD cs ∧ Cols cs ∧ pure d = true ∧ (∀ xs, d = .tup xs → ∀ e ∈ xs, few e) ∧ Q (.bl (isRule cs many d)) M
  | _ => False
/- are_some: 0 columns 1 name 2 thing 3 one -/
abbrev N_are_some : List Str := ["columns", "name", "thing", "one"]
def w_are_some : SS := (sSeq (sIf (tOr (tNot (wTest (wIs1 .tuple (wSlot 2)))) (tOr (wTest (w2 (sEq false) (wF sLen (aCons (wSlot 2) aNil)) (wC (.int 0)))) (tNot (wTest (wF sAll (aCons (wLc false (wIt (wSlot 2)) (asT1 3) [3] tTrue (wCall 3 g_is_value (aCons (wSlot 0) (aCons (wSlot 1) (aCons (wSlot 3) aNil))))) aNil))))))
 (sSeq (sRet (wC (.bl false)))
sNil)
 sNil)
(sSeq (sRet (wCall 1 g_rise (aCons (wSlot 2) aNil)))
sNil))
/- is_of_two: 0 columns 1 rule 2 numbers -/
abbrev N_is_of_two : List Str := ["columns", "rule", "numbers"]
def w_is_of_two : SS := (sSeq (sIf (tOr (wTest (w2 (sEq false) (w2 sSub1 (wSlot 1) (wC (.int 1))) (w2 sSub1 (wSlot 1) (wC (.int 2))))) (tNot (wTest (wCall 2 g_has_column (aCons (wSlot 0) (aCons (w2 sSub1 (wSlot 1) (wC (.int 2))) aNil))))))
 (sSeq (sRet (wC (.bl false)))
sNil)
 sNil)
(sSeq (sAsg (gSlot 2) (wF (sLst false) (aCons (wCall 2 g_has_numbers (aCons (wSlot 0) (aCons (w2 sSub1 (wSlot 1) (wC (.int 1))) aNil))) (aCons (wCall 2 g_has_numbers (aCons (wSlot 0) (aCons (w2 sSub1 (wSlot 1) (wC (.int 2))) aNil))) aNil))))
(sSeq (sIf (wTest (w2 (sEq false) (w2 sSub1 (wSlot 1) (wC (.int 0))) (wC (.str "less"))))
 (sSeq (sRet (w2 (sEq false) (wSlot 2) (wF (sLst false) (aCons (wC (.bl true)) (aCons (wC (.bl true)) aNil)))))
sNil)
 sNil)
(sSeq (sRet (wOr (w2 (sEq false) (w2 sSub1 (wSlot 1) (wC (.int 0))) (wC (.str "lead"))) (w2 (sEq false) (w2 sSub1 (wSlot 2) (wC (.int 0))) (w2 sSub1 (wSlot 2) (wC (.int 1))))))
sNil))))
/- is_of_one: 0 columns 1 many 2 rule 3 word 4 name -/
abbrev N_is_of_one : List Str := ["columns", "many", "rule", "word", "name"]
def w_is_of_one : SS := (sSeq (sAsg (gTuple [3, 4]) (wCut false (wSlot 2) none (some (wC (.int 2)))))
(sSeq (sIf (wTest (w2 (sEq false) (wSlot 3) (wC (.str "only"))))
 (sSeq (sRet (wCall 3 g_are_some (aCons (wSlot 0) (aCons (wSlot 4) (aCons (w2 sSub1 (wSlot 2) (wC (.int 2))) aNil)))))
sNil)
 sNil)
(sSeq (sIf (wTest (w2 (sEq false) (wSlot 3) (wC (.str "sum"))))
 (sSeq (sRet (wAnd (wCall 2 g_has_numbers (aCons (wSlot 0) (aCons (wSlot 4) aNil))) (wAnd (wCall 3 g_is_whole (aCons (w2 sSub1 (wSlot 2) (wC (.int 2))) (aCons (wC (.int 0)) (aCons (wC (.int 999)) aNil)))) (wCall 3 g_is_whole (aCons (w2 sSub1 (wSlot 2) (wC (.int 3))) (aCons (w2 sSub1 (wSlot 2) (wC (.int 2))) (aCons (wC (.int 999)) aNil)))))))
sNil)
 sNil)
(sSeq (sIf (wTest (w2 (sEq false) (wSlot 3) (wC (.str "share"))))
 (sSeq (sRet (wAnd (wCall 3 g_is_value (aCons (wSlot 0) (aCons (wSlot 4) (aCons (w2 sSub1 (wSlot 2) (wC (.int 2))) aNil)))) (wAnd (wCall 3 g_is_whole (aCons (w2 sSub1 (wSlot 2) (wC (.int 3))) (aCons (wC (.int 0)) (aCons (wSlot 1) aNil)))) (wCall 3 g_is_whole (aCons (w2 sSub1 (wSlot 2) (wC (.int 4))) (aCons (w2 sSub1 (wSlot 2) (wC (.int 3))) (aCons (wSlot 1) aNil)))))))
sNil)
 sNil)
(sSeq (sRet (wC (.bl true)))
sNil)))))
/- is_rule: 0 columns 1 many 2 thing -/
abbrev N_is_rule : List Str := ["columns", "many", "thing"]
def w_is_rule : SS := (sSeq (sIf (tOr (tNot (wTest (wIs1 .tuple (wSlot 2)))) (tOr (wTest (w2 sLt (wF sLen (aCons (wSlot 2) aNil)) (wC (.int 2)))) (tNot (wTest (wIs1 .str (w2 sSub1 (wSlot 2) (wC (.int 0))))))))
 (sSeq (sRet (wC (.bl false)))
sNil)
 sNil)
(sSeq (sIf (wTest (w2 (sEq true) (wTab lens (w2 sSub1 (wSlot 2) (wC (.int 0))) (wC (.int 0))) (wF sLen (aCons (wSlot 2) aNil))))
 (sSeq (sRet (wC (.bl false)))
sNil)
 sNil)
(sSeq (sIf (wTest (w2 (sEq false) (w2 sSub1 (wSlot 2) (wC (.int 0))) (wC (.str "held"))))
 (sSeq (sIf (tOr (tNot (wTest (wCall 3 g_is_whole (aCons (w2 sSub1 (wSlot 2) (wC (.int 1))) (aCons (wC (.int 0)) (aCons (w2 sSub (wSlot 1) (wC (.int 1))) aNil)))))) (tNot (wTest (wCall 2 g_has_column (aCons (wSlot 0) (aCons (w2 sSub1 (wSlot 2) (wC (.int 2))) aNil))))))
 (sSeq (sRet (wC (.bl false)))
sNil)
 sNil)
(sSeq (sRet (wCall 3 g_is_value (aCons (wSlot 0) (aCons (w2 sSub1 (wSlot 2) (wC (.int 2))) (aCons (w2 sSub1 (wSlot 2) (wC (.int 3))) aNil)))))
sNil))
 sNil)
(sSeq (sIf (tNot (wTest (wCall 2 g_has_column (aCons (wSlot 0) (aCons (w2 sSub1 (wSlot 2) (wC (.int 1))) aNil)))))
 (sSeq (sRet (wC (.bl false)))
sNil)
 sNil)
(sSeq (sIf (wTest (w2 (sEq false) (w2 sSub1 (wSlot 2) (wC (.int 0))) (wC (.str "if"))))
 (sSeq (sIf (tOr (tNot (wTest (wCall 2 g_has_column (aCons (wSlot 0) (aCons (w2 sSub1 (wSlot 2) (wC (.int 3))) aNil))))) (tOr (wTest (w2 (sEq false) (w2 sSub1 (wSlot 2) (wC (.int 1))) (w2 sSub1 (wSlot 2) (wC (.int 3))))) (tNot (wTest (wCall 3 g_is_value (aCons (wSlot 0) (aCons (w2 sSub1 (wSlot 2) (wC (.int 1))) (aCons (w2 sSub1 (wSlot 2) (wC (.int 2))) aNil))))))))
 (sSeq (sRet (wC (.bl false)))
sNil)
 sNil)
(sSeq (sRet (wCall 3 g_are_some (aCons (wSlot 0) (aCons (w2 sSub1 (wSlot 2) (wC (.int 3))) (aCons (w2 sSub1 (wSlot 2) (wC (.int 4))) aNil)))))
sNil))
 sNil)
(sSeq (sIf (wTest (w2 (sInD false) (w2 sSub1 (wSlot 2) (wC (.int 0))) (wF sTup (aCons (wC (.str "less")) (aCons (wC (.str "same")) (aCons (wC (.str "apart")) (aCons (wC (.str "lead")) aNil)))))))
 (sSeq (sRet (wCall 2 g_is_of_two (aCons (wSlot 0) (aCons (wSlot 2) aNil))))
sNil)
 sNil)
(sSeq (sRet (wCall 3 g_is_of_one (aCons (wSlot 0) (aCons (wSlot 1) (aCons (wSlot 2) aNil)))))
sNil)))))))
theorem homo_vals {vals xs : List D} (h : Homo vals) (hx : ∀ d ∈ xs, isValue vals d = true) : Homo xs := by
  have key : ∀ d ∈ xs, isBool d = false ∧ inD d vals = true := by
    intro d hd
    have := hx d hd
    unfold isValue at this
    rw [Bool.and_eq_true, Bool.and_eq_true] at this
    exact ⟨by have h := this.1.2; revert h; cases isTyD .bool d <;> simp, this.2⟩
  rcases h with h | h
  · left
    intro d hd
    obtain ⟨k1, k2⟩ := key d hd
    obtain ⟨e, he, q⟩ := List.any_eq_true.mp k2
    obtain ⟨i, rfl⟩ := h e he
    cases d <;> first | exact ⟨_, rfl⟩ | (cases k1; done) | (cases q; done)
  · right
    intro d hd
    obtain ⟨k1, k2⟩ := key d hd
    obtain ⟨e, he, q⟩ := List.any_eq_true.mp k2
    obtain ⟨i, rfl⟩ := h e he
    cases d <;> first | exact ⟨_, rfl⟩ | (cases q; done)
theorem p_are_some : Imp g_are_some (defW N_are_some w_are_some) := by
  intro ds M Q X h
  unfold g_are_some at h
  split at h
  · rename_i x d
    obtain ⟨cs, rfl, hx, hC, hp, hf, h⟩ := h
    replace h := dropQ.self h
    simp [↓defW, env0, ↓w_are_some, g_rise, g_is_value, tyOf_pure hp, isTy_pure hp]
    cases d <;> first | (simp [isTyD, areSome] at h ⊢; exact h) | simp [isTyD]
    rename_i xs
    unfold areSome at h
    by_cases h0 : xs = []
    · subst h0; simpa using h
    rw [if_neg h0]
    refine wLc_map (fun d => .bl (isValue (valsOf cs x) d)) (ds := xs) (fun R q => by simpa using q) hf (fun d hd => ⟨_, rfl, fun M' R q => ?_⟩) ?_
    · have hpd : pure d = true := by simp at hp; exact hp d hd
      simpa [wipeE, hx, hC, hpd, g_is_value] using q
    · rw [sAll_bls]
      have e0 : xs.isEmpty = false := by simpa using h0
      dsimp only at h ⊢
      rw [e0] at h
      cases ha : xs.all (isValue (valsOf cs x)) with
      | false => rw [ha] at h; simpa using h
      | true =>
        rw [ha] at h
        rw [List.all_eq_true] at ha
        simp at h ⊢
        refine ⟨homo_vals (hC.vals hx).2.1 ha, hf, h⟩
  · exact h.elim
theorem p_is_of_two : Imp g_is_of_two (defW N_is_of_two w_is_of_two) := by
  intro ds M Q X h
  unfold g_is_of_two at h
  split at h
  · rename_i w x d
    obtain ⟨cs, rfl, hx, hC, hp, h⟩ := h
    replace h := dropQ.self h
    simp [↓defW, env0, ↓w_is_of_two, g_has_column, g_has_numbers, hp, deref_pure hp, hx, hC, hC.few]
    unfold isOfTwo at h
    by_cases e : eqD (.str x) d = true
    · simpa [e] using h
    by_cases e2 : hasCol cs d = true
    · obtain ⟨y, rfl, _⟩ := hasCol_iff.mp e2
      by_cases e3 : w = Str.ofString "less"
      · simpa [e, e2, e3, hC, valsD] using h
      · simp [e2, e3, hC, valsD] at h e ⊢
        simpa [e] using h
    · simpa [e, e2] using h
  · exact h.elim
theorem p_is_of_one : Imp g_is_of_one (defW N_is_of_one w_is_of_one) := by
  intro ds M Q X h
  unfold g_is_of_one at h
  split at h
  · rename_i many w x rest
    obtain ⟨cs, rfl, hx, hC, hp, hw1, hw2, hw3, h⟩ := h
    replace h := dropQ.self h
    simp [↓defW, env0, ↓w_is_of_one, g_is_whole, g_is_value, g_has_numbers, g_are_some, hx, hC]
    unfold isOfOne at h
    by_cases e1 : w = Str.ofString "only"
    · obtain ⟨r0, rs, rfl⟩ : ∃ r0 rs, rest = r0 :: rs := by cases rest with
        | nil => exact absurd (hw1 e1) (by simp)
        | cons a b => exact ⟨a, b, rfl⟩
      simpa [e1, nth, hp r0] using h
    by_cases e2 : w = Str.ofString "sum"
    · obtain ⟨r0, r1, rs, rfl⟩ : ∃ r0 r1 rs, rest = r0 :: r1 :: rs := by
        have := hw2 e2
        match rest, this with
        | a :: b :: c, _ => exact ⟨a, b, c, rfl⟩
      subst e2
      simp [nth, hp r0, hp r1] at h ⊢
      cases hn : numsD (valsOf cs x) with
      | false => simpa [hn] using h
      | true =>
        cases r0 <;> first | (simpa [hn, isWhole] using h) | skip
        rename_i lo
        simp [hn] at h ⊢
        cases hw : isWhole (.int lo) 0 999 <;> simpa [hw, (hp r1 (by simp)).1] using h
    by_cases e3 : w = Str.ofString "share"
    · obtain ⟨r0, r1, r2, rs, rfl⟩ : ∃ r0 r1 r2 rs, rest = r0 :: r1 :: r2 :: rs := by
        have := hw3 e3
        match rest, this with
        | a :: b :: c :: d, _ => exact ⟨a, b, c, d, rfl⟩
      subst e3
      simp [nth, hp r0, hp r1, hp r2] at h ⊢
      cases hn : isValue (valsOf cs x) r0 with
      | false => simpa [hn] using h
      | true =>
        cases r1 <;> first | (simpa [hn, isWhole] using h) | skip
        rename_i lo
        simp [hn] at h ⊢
        cases hw : isWhole (.int lo) 0 many <;> simpa [hw, (hp r2 (by simp)).1] using h
    · simpa [e1, e2, e3] using h
  · exact h.elim
end FL
set_option Elab.async false
set_option linter.all false
set_option maxRecDepth 100000
set_option maxHeartbeats 400000
namespace FL
open PySem PySem.Spec PyProof.Rows L2 Evl
theorem lens_of {w : Str} {n : Int} (h : (lens.lookup w).getD 0 = n) (h1 : 1 ≤ n) : (w = "less" ∧ n = 3) ∨ (w = "same" ∧ n = 3) ∨ (w = "apart" ∧ n = 3) ∨ (w = "if" ∧ n = 5) ∨ (w = "only" ∧ n = 3) ∨ (w = "key" ∧ n = 2) ∨ (w = "rising" ∧ n = 2) ∨ (w = "sum" ∧ n = 4) ∨ (w = "share" ∧ n = 5) ∨ (w = "each" ∧ n = 2) ∨ (w = "held" ∧ n = 4) ∨ (w = "lead" ∧ n = 3) := by
  unfold lens at h
  simp only [List.lookup_cons, List.lookup_nil] at h
  repeat' split at h
  all_goals simp_all
  all_goals omega
theorem len1 {l : List D} (h : l.length = 1) : ∃ a, l = [a] := by
  match l, h with | [a], _ => exact ⟨a, rfl⟩
theorem len2 {l : List D} (h : l.length = 2) : ∃ a b, l = [a, b] := by
  match l, h with | [a, b], _ => exact ⟨a, b, rfl⟩
theorem len3 {l : List D} (h : l.length = 3) : ∃ a b c, l = [a, b, c] := by
  match l, h with | [a, b, c], _ => exact ⟨a, b, c, rfl⟩
theorem len4 {l : List D} (h : l.length = 4) : ∃ a b c d, l = [a, b, c, d] := by
  match l, h with | [a, b, c, d], _ => exact ⟨a, b, c, d, rfl⟩
theorem p_is_rule : Imp g_is_rule (defW N_is_rule w_is_rule) := by
  intro ds M Q X h
  unfold g_is_rule at h
  split at h
  · rename_i many d
    obtain ⟨cs, rfl, hC, hp, hf, h⟩ := h
    replace h := dropQ.self h
    cases d <;> first | (cases hp; done) | (simp [↓defW, env0, ↓w_is_rule, isTyD, isRule] at h ⊢; exact h) | skip
    rename_i xs
    simp at hp
    match xs with
    | [] => simp [↓defW, env0, ↓w_is_rule, isTyD, isRule] at h ⊢; exact h
    | d0 :: rest =>
      by_cases hs : isStr d0 = true
      · cases d0 <;> first | (cases hs; done) | skip
        rename_i w
        simp [↓defW, env0, ↓w_is_rule, isTyD, isRule] at h ⊢
        replace hf := hf _ rfl
        by_cases hl : (List.lookup w lens).getD 0 = (rest.length : Int) + 1
        · rcases lens_of hl (by omega) with ⟨rfl, e⟩ | ⟨rfl, e⟩ | ⟨rfl, e⟩ | ⟨rfl, e⟩ | ⟨rfl, e⟩ | ⟨rfl, e⟩ | ⟨rfl, e⟩ | ⟨rfl, e⟩ | ⟨rfl, e⟩ | ⟨rfl, e⟩ | ⟨rfl, e⟩ | ⟨rfl, e⟩
          all_goals rw [if_neg (by omega)]
          all_goals simp [hl] at h ⊢
          · obtain ⟨a, b, rfl⟩ := len2 (l := rest) (by omega)
            simp [hC.few] at h hp hf ⊢
            refine ⟨by simp [hp], ?_⟩
            by_cases e1 : hasCol cs a = true
            · obtain ⟨x, rfl, _⟩ := hasCol_iff.mp e1
              simpa [e1, hC, hp, hf] using h
            · cases a <;> simp [e1] at h ⊢ <;> exact h
          · obtain ⟨a, b, rfl⟩ := len2 (l := rest) (by omega)
            simp [hC.few] at h hp hf ⊢
            refine ⟨by simp [hp], ?_⟩
            by_cases e1 : hasCol cs a = true
            · obtain ⟨x, rfl, _⟩ := hasCol_iff.mp e1
              simpa [e1, hC, hp, hf] using h
            · cases a <;> simp [e1] at h ⊢ <;> exact h
          · obtain ⟨a, b, rfl⟩ := len2 (l := rest) (by omega)
            simp [hC.few] at h hp hf ⊢
            refine ⟨by simp [hp], ?_⟩
            by_cases e1 : hasCol cs a = true
            · obtain ⟨x, rfl, _⟩ := hasCol_iff.mp e1
              simpa [e1, hC, hp, hf] using h
            · cases a <;> simp [e1] at h ⊢ <;> exact h
          · obtain ⟨a, b, c, d, rfl⟩ := len4 (l := rest) (by omega)
            simp [hC.few] at h hp hf ⊢
            refine ⟨by simp [hp], ?_⟩
            by_cases e1 : hasCol cs a = true
            · obtain ⟨x, rfl, _⟩ := hasCol_iff.mp e1
              simp [e1, hC, hp, hf] at h ⊢
              by_cases e2 : hasCol cs c = true
              · obtain ⟨y, rfl, _⟩ := hasCol_iff.mp e2
                simp [e2, valsD] at h ⊢
                by_cases e3 : x = y
                · simpa [e3] using h
                · simp [e3] at h ⊢
                  cases e4 : isValue (valsOf cs x) b <;> simpa [e4, hC, hp, hf] using h
              · simpa [e2] using h
            · cases a <;> simp [e1] at h ⊢ <;> exact h
          · obtain ⟨a, b, rfl⟩ := len2 (l := rest) (by omega)
            simp [hC.few] at h hp hf ⊢
            refine ⟨by simp [hp], ?_⟩
            by_cases e1 : hasCol cs a = true
            · obtain ⟨x, rfl, _⟩ := hasCol_iff.mp e1
              simpa [e1, hC, hp, hf] using h
            · cases a <;> simp [e1] at h ⊢ <;> exact h
          · obtain ⟨a, rfl⟩ := len1 (l := rest) (by omega)
            simp [hC.few] at h hp hf ⊢
            refine ⟨by simp [hp], ?_⟩
            by_cases e1 : hasCol cs a = true
            · obtain ⟨x, rfl, _⟩ := hasCol_iff.mp e1
              simpa [e1, hC, hp, hf] using h
            · cases a <;> simp [e1] at h ⊢ <;> exact h
          · obtain ⟨a, rfl⟩ := len1 (l := rest) (by omega)
            simp [hC.few] at h hp hf ⊢
            refine ⟨by simp [hp], ?_⟩
            by_cases e1 : hasCol cs a = true
            · obtain ⟨x, rfl, _⟩ := hasCol_iff.mp e1
              simpa [e1, hC, hp, hf] using h
            · cases a <;> simp [e1] at h ⊢ <;> exact h
          · obtain ⟨a, b, c, rfl⟩ := len3 (l := rest) (by omega)
            simp [hC.few] at h hp hf ⊢
            refine ⟨by simp [hp], ?_⟩
            by_cases e1 : hasCol cs a = true
            · obtain ⟨x, rfl, _⟩ := hasCol_iff.mp e1
              simpa [e1, hC, hp, hf] using h
            · cases a <;> simp [e1] at h ⊢ <;> exact h
          · obtain ⟨a, b, c, d, rfl⟩ := len4 (l := rest) (by omega)
            simp [hC.few] at h hp hf ⊢
            refine ⟨by simp [hp], ?_⟩
            by_cases e1 : hasCol cs a = true
            · obtain ⟨x, rfl, _⟩ := hasCol_iff.mp e1
              simpa [e1, hC, hp, hf] using h
            · cases a <;> simp [e1] at h ⊢ <;> exact h
          · obtain ⟨a, rfl⟩ := len1 (l := rest) (by omega)
            simp [hC.few] at h hp hf ⊢
            refine ⟨by simp [hp], ?_⟩
            by_cases e1 : hasCol cs a = true
            · obtain ⟨x, rfl, _⟩ := hasCol_iff.mp e1
              simpa [e1, hC, hp, hf] using h
            · cases a <;> simp [e1] at h ⊢ <;> exact h
          · obtain ⟨a, b, c, rfl⟩ := len3 (l := rest) (by omega)
            simp [hC.few] at h hp hf ⊢
            refine ⟨by simp [hp], ?_⟩
            cases e1 : isWhole a 0 (many - 1) with
            | false => simpa [e1] using h
            | true =>
              by_cases e2 : hasCol cs b = true
              · obtain ⟨y, rfl, _⟩ := hasCol_iff.mp e2
                simpa [e1, e2, hC, hp, valsD] using h
              · simpa [e1, e2, hp] using h
          · obtain ⟨a, b, rfl⟩ := len2 (l := rest) (by omega)
            simp [hC.few] at h hp hf ⊢
            refine ⟨by simp [hp], ?_⟩
            by_cases e1 : hasCol cs a = true
            · obtain ⟨x, rfl, _⟩ := hasCol_iff.mp e1
              simpa [e1, hC, hp, hf] using h
            · cases a <;> simp [e1] at h ⊢ <;> exact h
        · simp [hl] at h ⊢
          exact h
      · cases d0 <;> first | (exact absurd rfl hs) | skip
        all_goals first | (simp [↓defW, env0, ↓w_is_rule, isTyD, isRule] at h hp ⊢; exact h) | (simp at hp)
  · exact h.elim
end FL
set_option Elab.async false
set_option linter.all false
set_option maxRecDepth 100000
set_option maxHeartbeats 400000
namespace FL
open PySem PySem.Spec PyProof.Rows L2 Evl
/-! ### the laws' own looks: columns, rules -/
@[simp ↓] def g__law_is_number : Fn := fun ds M Q _ => match ds with
  | [d, .int lo, .int hi] => pure d = true ∧ Q (.bl (isWhole d lo hi)) M
  | _ => False
@[simp ↓] def g__law_rising : Fn := fun ds M Q _ => match ds with
  | [d] => ∃ xs, (d = .tup xs ∨ d = .lst xs) ∧ Homo xs ∧ xs.length ≤ 100000 ∧ Q (.bl (rise xs)) M
  | _ => False
@[simp ↓] def g__law_found : Fn := fun ds M Q _ => match ds with
  | [c, d] => ∃ cs, c = colsD cs ∧ cs.length ≤ 100000 ∧ pure d = true ∧ Q (.tup (valsD cs d)) M
  | _ => False
@[simp ↓] def g__law_is_value : Fn := fun ds M Q _ => match ds with
  | [.tup vals, d] => vals.all flatD = true ∧ pure d = true ∧ Q (.bl (isValue vals d)) M
  | _ => False
@[simp ↓] def g__law_are_some : Fn := fun ds M Q _ => match ds with
  | [.tup vals, d] => vals.all flatD = true ∧ Homo vals ∧ pure d = true ∧ few d ∧ Q (.bl (areSome vals d)) M
  | _ => False
def lawTwo (w : Str) (vs os : List D) (u : Bool) : Bool := !os.isEmpty && u && (decide (w = "lead") || (numsD vs && numsD os) || (!decide (w = "less") && (!numsD vs && !numsD os)))
@[simp ↓] def g__law_two : Fn := fun ds M Q _ => match ds with
  | [.str w, .tup vs, .tup os, .bl u] => Homo vs ∧ 1 ≤ vs.length ∧ Homo os ∧ Q (.bl (lawTwo w vs os u)) M
  | _ => False
@[simp ↓] def g__law_is_rule : Fn := fun ds M Q _ => match ds with
  | [c, .int many, d] => ∃ cs, c = colsD cs ∧ Cols cs ∧ pure d = true ∧ (∀ xs, d = .tup xs → ∀ e ∈ xs, few e) ∧ Q (.bl (isRule cs many d)) M
  | _ => False
@[simp ↓] def g__law_says : Fn := fun ds M Q _ => match ds with
  | [.bl a, .bl b] => Q (.bl (a == b)) M
  | _ => False
/- _law_is_number: 0 _law_thing_here 1 _law_low 2 _law_high -/
abbrev N__law_is_number : List Str := ["_law_thing_here", "_law_low", "_law_high"]
def w__law_is_number : SS := (sSeq (sRet (wAnd (wIs1 .int (wSlot 0)) (wAnd (wNot (wIs1 .bool (wSlot 0))) (w3 sLe sLe (wSlot 1) (wSlot 0) (wSlot 2)))))
sNil)
/- _law_rising: 0 _law_some_here 1 _law_k -/
abbrev N__law_rising : List Str := ["_law_some_here", "_law_k"]
def w__law_rising : SS := (sSeq (sRet (w2 (sEq false) (wLc false (wRange2 (aCons (wC (.int 1)) (aCons (wF sLen (aCons (wSlot 0) aNil)) aNil))) (asT1 1) [1] (tNot (wTest (w2 sLt (w2 sSub1 (wSlot 0) (w2 sSub (wSlot 1) (wC (.int 1)))) (w2 sSub1 (wSlot 0) (wSlot 1))))) (wSlot 1)) (wF (sLst false) aNil)))
sNil)
/- _law_found: 0 _law_columns_here 1 _law_name 2 _law_other 3 _law_values -/
abbrev N__law_found : List Str := ["_law_columns_here", "_law_name", "_law_other", "_law_values"]
def w__law_found : SS := (sSeq (lockIt 0 (sFor (wIt (wSlot 0)) (gTuple [2, 3])
 (sSeq (sIf (tAnd (wTest (wIs1 .str (wSlot 1))) (wTest (w2 (sEq false) (wSlot 2) (wSlot 1))))
 (sSeq (sRet (wSlot 3))
sNil)
 sNil)
sNil)))
(sSeq (sRet (wF sTup aNil))
sNil))
/- _law_is_value: 0 _law_values 1 _law_thing_here -/
abbrev N__law_is_value : List Str := ["_law_values", "_law_thing_here"]
def w__law_is_value : SS := (sSeq (sRet (wAnd (wIs2 .int .str (wSlot 1)) (wAnd (wNot (wIs1 .bool (wSlot 1))) (w2 (sInD false) (wSlot 1) (wSlot 0)))))
sNil)
/- _law_are_some: 0 _law_values 1 _law_thing_here 2 _law_one -/
abbrev N__law_are_some : List Str := ["_law_values", "_law_thing_here", "_law_one"]
def w__law_are_some : SS := (sSeq (sIf (tOr (tNot (wTest (wIs1 .tuple (wSlot 1)))) (wTest (w2 (sEq false) (wSlot 1) (wF sTup aNil))))
 (sSeq (sRet (wC (.bl false)))
sNil)
 sNil)
(sSeq (sRet (wAnd (w2 (sEq false) (wLc false (wIt (wSlot 1)) (asT1 2) [2] (tNot (wTest (wCall 2 g__law_is_value (aCons (wSlot 0) (aCons (wSlot 2) aNil))))) (wSlot 2)) (wF (sLst false) aNil)) (wCall 1 g__law_rising (aCons (wSlot 1) aNil))))
sNil))
/- _law_two: 0 _law_word_here 1 _law_values 2 _law_others 3 _law_unlike 4 _law_numbers -/
abbrev N__law_two : List Str := ["_law_word_here", "_law_values", "_law_others", "_law_unlike", "_law_numbers"]
def w__law_two : SS := (sSeq (sIf (tOr (wTest (w2 (sEq false) (wSlot 2) (wF sTup aNil))) (tNot (wTest (wSlot 3))))
 (sSeq (sRet (wC (.bl false)))
sNil)
 sNil)
(sSeq (sAsg (gSlot 4) (wF (sLst false) (aCons (wIs1 .int (w2 sSub1 (wSlot 1) (wC (.int 0)))) (aCons (wIs1 .int (w2 sSub1 (wSlot 2) (wC (.int 0)))) aNil))))
(sSeq (sRet (wOr (w2 (sEq false) (wSlot 0) (wC (.str "lead"))) (wOr (w2 (sEq false) (wSlot 4) (wF (sLst false) (aCons (wC (.bl true)) (aCons (wC (.bl true)) aNil)))) (wAnd (w2 (sEq true) (wSlot 0) (wC (.str "less"))) (w2 (sEq false) (wSlot 4) (wF (sLst false) (aCons (wC (.bl false)) (aCons (wC (.bl false)) aNil))))))))
sNil)))
/- _law_says: 0 _law_found 1 _law_due -/
abbrev N__law_says : List Str := ["_law_found", "_law_due"]
def w__law_says : SS := (sSeq (sRet (wAnd (wIs1 .bool (wSlot 0)) (w2 (sEq false) (wSlot 0) (wSlot 1))))
sNil)
/- _law_is_rule: 0 _law_columns_here 1 _law_many 2 _law_thing_here 3 _law_words 4 _law_values 5 _law_others 6 _law_good -/
abbrev N__law_is_rule : List Str := ["_law_columns_here", "_law_many", "_law_thing_here", "_law_words", "_law_values", "_law_others", "_law_good"]
def w__law_is_rule_12 : SS := (sSeq (sRet (wC (.bl true)))
sNil)
def w__law_is_rule_11 : SS := (sSeq (sIf (wTest (w2 (sEq false) (w2 sSub1 (wSlot 2) (wC (.int 0))) (wC (.str "share"))))
 (sSeq (sAsg (gSlot 6) (wAnd (wCall 3 g__law_is_number (aCons (w2 sSub1 (wSlot 2) (wC (.int 3))) (aCons (wC (.int 0)) (aCons (wSlot 1) aNil)))) (wCall 3 g__law_is_number (aCons (w2 sSub1 (wSlot 2) (wC (.int 4))) (aCons (wC (.int 0)) (aCons (wSlot 1) aNil))))))
(sSeq (sRet (wAnd (wCall 2 g__law_is_value (aCons (wSlot 4) (aCons (w2 sSub1 (wSlot 2) (wC (.int 2))) aNil))) (wAnd (wSlot 6) (w2 sLe (w2 sSub1 (wSlot 2) (wC (.int 3))) (w2 sSub1 (wSlot 2) (wC (.int 4)))))))
sNil))
 sNil)
w__law_is_rule_12)
def w__law_is_rule_10 : SS := (sSeq (sIf (wTest (w2 (sEq false) (w2 sSub1 (wSlot 2) (wC (.int 0))) (wC (.str "sum"))))
 (sSeq (sAsg (gSlot 6) (wAnd (wCall 3 g__law_is_number (aCons (w2 sSub1 (wSlot 2) (wC (.int 2))) (aCons (wC (.int 0)) (aCons (wC (.int 999)) aNil)))) (wCall 3 g__law_is_number (aCons (w2 sSub1 (wSlot 2) (wC (.int 3))) (aCons (wC (.int 0)) (aCons (wC (.int 999)) aNil))))))
(sSeq (sRet (wAnd (wIs1 .int (w2 sSub1 (wSlot 4) (wC (.int 0)))) (wAnd (wSlot 6) (w2 sLe (w2 sSub1 (wSlot 2) (wC (.int 2))) (w2 sSub1 (wSlot 2) (wC (.int 3)))))))
sNil))
 sNil)
w__law_is_rule_11)
def w__law_is_rule_9 : SS := (sSeq (sIf (wTest (w2 (sEq false) (w2 sSub1 (wSlot 2) (wC (.int 0))) (wC (.str "only"))))
 (sSeq (sRet (wCall 2 g__law_are_some (aCons (wSlot 4) (aCons (w2 sSub1 (wSlot 2) (wC (.int 2))) aNil))))
sNil)
 sNil)
w__law_is_rule_10)
def w__law_is_rule_8 : SS := (sSeq (sIf (wTest (w2 (sInD false) (w2 sSub1 (wSlot 2) (wC (.int 0))) (wF sTup (aCons (wC (.str "less")) (aCons (wC (.str "same")) (aCons (wC (.str "apart")) (aCons (wC (.str "lead")) aNil)))))))
 (sSeq (sRet (wCall 4 g__law_two (aCons (w2 sSub1 (wSlot 2) (wC (.int 0))) (aCons (wSlot 4) (aCons (wCall 2 g__law_found (aCons (wSlot 0) (aCons (w2 sSub1 (wSlot 2) (wC (.int 2))) aNil))) (aCons (w2 (sEq true) (w2 sSub1 (wSlot 2) (wC (.int 1))) (w2 sSub1 (wSlot 2) (wC (.int 2)))) aNil))))))
sNil)
 sNil)
w__law_is_rule_9)
def w__law_is_rule_7 : SS := (sSeq (sIf (wTest (w2 (sEq false) (w2 sSub1 (wSlot 2) (wC (.int 0))) (wC (.str "if"))))
 (sSeq (sAsg (gSlot 5) (wCall 2 g__law_found (aCons (wSlot 0) (aCons (w2 sSub1 (wSlot 2) (wC (.int 3))) aNil))))
(sSeq (sIf (tOr (wTest (w2 (sEq false) (wSlot 5) (wF sTup aNil))) (tOr (wTest (w2 (sEq false) (w2 sSub1 (wSlot 2) (wC (.int 1))) (w2 sSub1 (wSlot 2) (wC (.int 3))))) (tNot (wTest (wCall 2 g__law_is_value (aCons (wSlot 4) (aCons (w2 sSub1 (wSlot 2) (wC (.int 2))) aNil)))))))
 (sSeq (sRet (wC (.bl false)))
sNil)
 sNil)
(sSeq (sRet (wCall 2 g__law_are_some (aCons (wSlot 5) (aCons (w2 sSub1 (wSlot 2) (wC (.int 4))) aNil))))
sNil)))
 sNil)
w__law_is_rule_8)
def w__law_is_rule_6 : SS := (sSeq (sIf (wTest (w2 (sEq false) (wSlot 4) (wF sTup aNil)))
 (sSeq (sRet (wC (.bl false)))
sNil)
 sNil)
w__law_is_rule_7)
def w__law_is_rule_5 : SS := (sSeq (sAsg (gSlot 4) (wCall 2 g__law_found (aCons (wSlot 0) (aCons (w2 sSub1 (wSlot 2) (wC (.int 1))) aNil))))
w__law_is_rule_6)
def w__law_is_rule_4 : SS := (sSeq (sIf (wTest (w2 (sEq false) (w2 sSub1 (wSlot 2) (wC (.int 0))) (wC (.str "held"))))
 (sSeq (sRet (wAnd (wCall 3 g__law_is_number (aCons (w2 sSub1 (wSlot 2) (wC (.int 1))) (aCons (wC (.int 0)) (aCons (w2 sSub (wSlot 1) (wC (.int 1))) aNil)))) (wCall 2 g__law_is_value (aCons (wCall 2 g__law_found (aCons (wSlot 0) (aCons (w2 sSub1 (wSlot 2) (wC (.int 2))) aNil))) (aCons (w2 sSub1 (wSlot 2) (wC (.int 3))) aNil)))))
sNil)
 sNil)
w__law_is_rule_5)
def w__law_is_rule_3 : SS := (sSeq (sIf (wTest (w2 (sEq true) (wM "dict" mDGet (wSlot 3) (aCons (w2 sSub1 (wSlot 2) (wC (.int 0))) (aCons (wC (.int 0)) aNil))) (wF sLen (aCons (wSlot 2) aNil))))
 (sSeq (sRet (wC (.bl false)))
sNil)
 sNil)
w__law_is_rule_4)
def w__law_is_rule_2 : SS := (sSeq (sIf (tOr (tNot (wTest (wIs1 .tuple (wSlot 2)))) (tOr (wTest (w2 (sEq false) (wSlot 2) (wF sTup aNil))) (tNot (wTest (wIs1 .str (w2 sSub1 (wSlot 2) (wC (.int 0))))))))
 (sSeq (sRet (wC (.bl false)))
sNil)
 sNil)
w__law_is_rule_3)
def w__law_is_rule_1 : SS := (sSeq (sExpr (wM "dict" mUpdate (wSlot 3) (aCons (wDisp [((wC (.str "each")), (wC (.int 2))), ((wC (.str "held")), (wC (.int 4))), ((wC (.str "lead")), (wC (.int 3)))]) aNil)))
w__law_is_rule_2)
def w__law_is_rule : SS := (sSeq (sAsg (gSlot 3) (wDisp [((wC (.str "less")), (wC (.int 3))), ((wC (.str "same")), (wC (.int 3))), ((wC (.str "apart")), (wC (.int 3))), ((wC (.str "if")), (wC (.int 5))), ((wC (.str "only")), (wC (.int 3))), ((wC (.str "key")), (wC (.int 2))), ((wC (.str "rising")), (wC (.int 2))), ((wC (.str "sum")), (wC (.int 4))), ((wC (.str "share")), (wC (.int 5)))]))
w__law_is_rule_1)
theorem p__law_is_number : Imp g__law_is_number (defW N__law_is_number w__law_is_number) := by
  intro ds M Q X h
  unfold g__law_is_number at h
  split at h
  · rename_i d lo hi
    obtain ⟨hp, h⟩ := h
    replace h := dropQ.self h
    simp only [defW, env0, w__law_is_number]
    cases d <;> simp_all [isTy_pure, isTyD, isWhole]
  · exact h.elim
theorem p__law_says : Imp g__law_says (defW N__law_says w__law_says) := by
  intro ds M Q X h
  unfold g__law_says at h
  split at h
  · rename_i a b
    replace h := dropQ.self h
    simpa [↓defW, env0, ↓w__law_says] using h
  · exact h.elim
theorem p__law_is_value : Imp g__law_is_value (defW N__law_is_value w__law_is_value) := by
  intro ds M Q X h
  unfold g__law_is_value at h
  split at h
  · rename_i vals d
    obtain ⟨f1, hp, h⟩ := h
    replace h := dropQ.self h
    simp [↓defW, env0, ↓w__law_is_value, tyOf_pure hp, isTy_pure hp]
    cases d <;> simp [isTyD, isValue] at h ⊢ <;> first
      | exact h
      | exact (by simpa [flatD] using ⟨fun e he => List.all_eq_true.mp f1 e he, h⟩)
  · exact h.elim
theorem p__law_found : Imp g__law_found (defW N__law_found w__law_found) := by
  intro ds M Q X h
  unfold g__law_found at h
  split at h
  · rename_i x
    obtain ⟨cs, rfl, hl, hp, h⟩ := h
    replace h := dropQ.self h
    simp [↓defW, env0, ↓w__law_found, colsD, tyOf_pure hp, isTy_pure hp]
    have none0 : (¬∃ z, x = .str z ∧ ∃ c ∈ cs, c.1 = z) → valsD cs x = [] := fun hn => by
      cases x <;> first | rfl | skip
      rename_i z
      show valsOf cs z = []
      unfold valsOf spotOf
      rw [List.findIdx_eq_length.mpr fun c hc => decide_eq_false fun e => hn ⟨z, rfl, c, hc, e⟩, List.getD_eq_getElem?_getD, List.getElem?_eq_none (Nat.le_refl _)]
      rfl
    refine loopW_ind (fun i e m => ∃ a b, e = [some (D.tup (List.map colD cs)), some x, a, b] ∧ m = M ∧ ∀ j c, j < i → cs[j]? = some c → x ≠ .str c.1) ⟨_, _, rfl, rfl, fun _ _ z => absurd z (by omega)⟩ (fun _ _ _ _ => trivial) ?_ ?_
    · rintro e m ⟨a, b, rfl, rfl, hn⟩
      simp
      rw [none0] at h
      · exact h
      · rintro ⟨z, rfl, c, hc, e⟩
        obtain ⟨j, hj⟩ := List.getElem?_of_mem hc
        have := (List.getElem?_eq_some_iff.mp hj).1
        exact hn j c (by simpa using this) hj (by rw [e])
    · rintro i d e m K hd ⟨a, b, rfl, rfl, hn⟩ hnx hct hbk hrt hxx
      rw [List.getElem?_map] at hd
      obtain ⟨c, hc, rfl⟩ := Option.map_eq_some_iff.mp hd
      simp [colD, tyOf_pure hp, isTy_pure hp, deref_pure hp, hp]
      have next : x ≠ .str c.1 → K (Out.nx [some (D.tup (List.map colD cs)), some x, some (D.str c.fst), some (D.tup c.snd)] m) := fun hne => hnx _ _ ⟨_, _, rfl, rfl, fun j c' hj hc' => by
        by_cases hji : j = i
        · rw [hji, hc] at hc'; cases hc'; exact hne
        · exact hn j c' (by omega) hc'⟩
      cases x <;> first | (cases hp; done) | (simp [isTyD]; exact next (by simp); done) | skip
      rename_i z
      simp [isTyD]
      split
      · rename_i e
        refine hrt _ _ ?_
        have : valsD cs (.str z) = c.2 := by
          have hi := (List.getElem?_eq_some_iff.mp hc)
          have hs : spotOf cs z = i := by
            unfold spotOf
            have hlt := hi.1
            refine (List.findIdx_eq hi.1).mpr ⟨by rw [hi.2]; exact decide_eq_true e, fun j hj => decide_eq_false fun e2 => hn j _ hj (List.getElem?_eq_getElem (Nat.lt_trans hj hlt)) (by rw [e2])⟩
          show valsOf cs z = _
          unfold valsOf
          rw [hs, List.getD_eq_getElem?_getD, hc]
          rfl
        rw [← this]
        exact h
      · rename_i e
        exact next (by simpa using fun e2 => e e2.symm)
  · exact h.elim
theorem dropQ.sub2 {α : Type} {Q : α → Mem → Prop} {d : α} {M M' : Mem} (h : dropQ Q d M) (s : Sub M M') : dropQ Q d M' := by
  obtain ⟨M2, l, q⟩ := h
  exact ⟨M2, l.trans s.le, q⟩
theorem eqDs_nilR {xs : List D} : eqDs xs [] = xs.isEmpty := by cases xs <;> rfl
theorem Homo.get {xs : List D} (h : Homo xs) {i j : Nat} (hi : i < xs.length) (hj : j < xs.length) : (∃ a b, nth xs i = .int a ∧ nth xs j = .int b) ∨ ∃ a b, nth xs i = .str a ∧ nth xs j = .str b := by
  rcases h with h | h
  · obtain ⟨a, ea⟩ := h _ (nth_mem hi); obtain ⟨b, eb⟩ := h _ (nth_mem hj); exact .inl ⟨a, b, ea, eb⟩
  · obtain ⟨a, ea⟩ := h _ (nth_mem hi); obtain ⟨b, eb⟩ := h _ (nth_mem hj); exact .inr ⟨a, b, ea, eb⟩
theorem p__law_rising : Imp g__law_rising (defW N__law_rising w__law_rising) := by
  intro ds M Q X h
  unfold g__law_rising at h
  split at h
  · rename_i d
    obtain ⟨xs, hd, hh, hl, h⟩ := h
    replace h := dropQ.self h
    have core : ∀ d, (d = .tup xs ∨ d = .lst xs) → defW N__law_rising w__law_rising [d] M (dropQ Q) (dropQ X) := by
      intro d hd
      rcases hd with rfl | rfl <;> simp [↓defW, env0, ↓w__law_rising]
      all_goals
        refine wLc_filter (ds := upFrom 1 (xs.length - 1)) id (fun d => match d with | .int j => !ltD (nth xs (j - 1).toNat) (nth xs j.toNat) | _ => false) (fun R q => ?_) (by rw [upFrom_len]; omega) (fun d hd => ?_) ?_
        · simp
          exact ⟨by omega, q⟩
        · unfold upFrom at hd
          obtain ⟨i, hi, rfl⟩ := List.mem_map.mp hd
          have hi := List.mem_range.mp hi
          refine ⟨_, rfl, fun M' R q => ?_, fun _ M' R q => by simpa [wipeE] using q⟩
          simp [wipeE]
          have e1 : ((1 : Int) + (i : Int) - 1).toNat = i := by omega
          have e2 : ((1 : Int) + (i : Int)).toNat = i + 1 := by omega
          simp only [e1, e2] at q
          refine ⟨_, by rw [show (1 : Int) + (i : Int) - 1 = (i : Nat) by omega]; exact atI_nth (by omega), _, by rw [show (1 : Int) + (i : Int) = ((i + 1 : Nat) : Int) by omega]; exact atI_nth (by omega), ?_⟩
          rcases hh.get (i := i) (j := i + 1) (by omega) (by omega) with ⟨a, b, ea, eb⟩ | ⟨a, b, ea, eb⟩ <;> (rw [ea, eb] at q ⊢; simpa [ltD] using q)
        · have hpl : pure (.lst (((upFrom 1 (xs.length - 1)).filter (fun d => match d with | .int j => !ltD (nth xs (j - 1).toNat) (nth xs j.toNat) | _ => false)).map id)) = true := by
            rw [List.map_id, pure_lst, List.all_eq_true]
            intro d hd
            have := (List.mem_filter.mp hd).1
            unfold upFrom at this
            obtain ⟨i, _, rfl⟩ := List.mem_map.mp this
            rfl
          have he : (((upFrom 1 (xs.length - 1)).filter (fun d => match d with | .int j => !ltD (nth xs (j - 1).toNat) (nth xs j.toNat) | _ => false)).map id).isEmpty = rise xs := by
            rw [List.map_id, Bool.eq_iff_iff, List.isEmpty_iff, List.filter_eq_nil_iff]
            unfold rise
            rw [List.all_eq_true]
            constructor
            · intro hz k hk
              have hk2 := List.mem_range.mp hk
              have := hz (.int (1 + (k : Int))) (by unfold upFrom; exact List.mem_map.mpr ⟨k, hk, rfl⟩)
              have e1 : ((1 : Int) + (k : Int) - 1).toNat = k := by omega
              have e2 : ((1 : Int) + (k : Int)).toNat = k + 1 := by omega
              simp only [e1, e2] at this
              simpa using this
            · intro hz d hd
              unfold upFrom at hd
              obtain ⟨k, hk, rfl⟩ := List.mem_map.mp hd
              have := hz k hk
              have e1 : ((1 : Int) + (k : Int) - 1).toNat = k := by omega
              have e2 : ((1 : Int) + (k : Int)).toNat = k + 1 := by omega
              simp only [e1, e2]
              simpa using this
          rw [deref_lst, eqD_lst, eqDs_nilR, he]
          exact ⟨hpl, by omega, h⟩
    exact core d hd
  · exact h.elim
theorem isEmpty_filter {α : Type} {l : List α} {p : α → Bool} : (l.filter p).isEmpty = l.all fun d => !p d := by
  rw [Bool.eq_iff_iff, List.isEmpty_iff, List.filter_eq_nil_iff, List.all_eq_true]
  simp
theorem p__law_are_some : Imp g__law_are_some (defW N__law_are_some w__law_are_some) := by
  intro ds M Q X h
  unfold g__law_are_some at h
  split at h
  · rename_i vals d
    obtain ⟨f1, hh, hp, hf, h⟩ := h
    replace h := dropQ.self h
    simp [↓defW, env0, ↓w__law_are_some, tyOf_pure hp, isTy_pure hp, deref_pure hp, hp]
    cases d <;> first | (cases hp; done) | (simp [isTyD, areSome] at h ⊢; exact h) | simp [isTyD]
    rename_i xs
    by_cases h0 : xs = []
    · subst h0; simpa [areSome] using h
    have e0 : xs.isEmpty = false := by simpa using h0
    rw [eqDs_nilR, e0]
    simp
    simp at hp
    refine wLc_filter (ds := xs) id (fun d => !isValue vals d) (fun R q => by simpa using q) hf (fun d hd => ⟨_, rfl, fun M' R q => ?_, fun _ M' R q => by simpa [wipeE] using q⟩) ?_
    · simp [wipeE]
      exact ⟨fun x hx => List.all_eq_true.mp f1 x hx, hp d hd, q⟩
    · have hpl : pure (.lst ((xs.filter (fun d => !isValue vals d)).map id)) = true := by
        rw [List.map_id, pure_lst, List.all_eq_true]
        exact fun d hd => hp d (List.mem_filter.mp hd).1
      rw [deref_lst, eqD_lst, eqDs_nilR, List.map_id, isEmpty_filter]
      rw [List.map_id] at hpl
      refine ⟨hpl, by omega, ?_⟩
      simp only [Bool.not_not]
      unfold areSome at h
      dsimp only at h
      rw [e0] at h
      split
      · rename_i ha
        refine ⟨homo_vals hh fun d hd => List.all_eq_true.mp ha d hd, hf, ?_⟩
        have ha' : xs.all (isValue vals) = true := ha
        rw [ha'] at h
        simpa using h
      · rename_i ha
        have ha' : xs.all (isValue vals) = false := by simpa using ha
        rw [ha'] at h
        simpa using h
  · exact h.elim
theorem p__law_two : Imp g__law_two (defW N__law_two w__law_two) := by
  intro ds M Q X h
  unfold g__law_two at h
  split at h
  · rename_i w vs os u
    obtain ⟨hv, h1, ho, h⟩ := h
    replace h := dropQ.self h
    simp [↓defW, env0, ↓w__law_two]
    refine ⟨fun x hx => by rcases ho with ho | ho <;> (obtain ⟨i, rfl⟩ := ho x hx; rfl), ?_⟩
    rw [eqDs_nilR]
    cases os with
    | nil => simpa [lawTwo] using h
    | cons o os =>
      cases u with
      | false => simpa [lawTwo] using h
      | true =>
        cases vs with
        | nil => simp at h1
        | cons v vs =>
          have tv : (tyOf (deref M v)).isSome = true ∧ isTy M .int v = isInt v := by
            rcases hv with hv | hv <;> (obtain ⟨i, rfl⟩ := hv v (by simp); exact ⟨rfl, rfl⟩)
          have to : (tyOf (deref M o)).isSome = true ∧ isTy M .int o = isInt o := by
            rcases ho with hv | hv <;> (obtain ⟨i, rfl⟩ := hv o (by simp); exact ⟨rfl, rfl⟩)
          simp [tv.1, tv.2, to.1, to.2]
          unfold lawTwo numsD at h
          rw [nth_0, nth_0] at h
          generalize isInt v = x at h ⊢
          generalize isInt o = y at h ⊢
          cases x <;> cases y <;> by_cases e1 : w = Str.ofString "lead" <;> by_cases e2 : w = Str.ofString "less" <;> simp [e1, e2] at h ⊢ <;> exact h
  · exact h.elim
theorem getKD_tab {w : Str} : ∀ {l : List (Str × Int)}, getKD (l.map fun q => ((Sum.inr q.1 : Key), D.int q.2)) (.inr w) (.int 0) = .int ((l.lookup w).getD 0)
  | [] => rfl
  | q :: r => by
    have ih := getKD_tab (w := w) (l := r)
    unfold getKD at ih ⊢
    rw [List.map_cons, List.lookup_cons]
    unfold getK
    by_cases e : w = q.1
    · have b : (w == q.1) = true := by rw [e]; exact beq_self_eq_true q.1
      rw [b, if_pos (by rw [e])]
      rfl
    · have b : (w == q.1) = false := beq_eq_false_iff_ne.mpr e
      rw [b, if_neg (by intro h; exact e (Sum.inr.inj h).symm)]
      exact ih
@[simp] theorem getKD_tab' {w : Str} {l : List (Str × Int)} : getKD (l.map fun q => ((Sum.inr q.1 : Key), D.int q.2)) (.inr w) (.int 0) = .int ((l.lookup w).getD 0) := getKD_tab
theorem valsD_nil {cs : List Cl} {d : D} (h : hasCol cs d = false) : valsD cs d = [] := by
  cases d <;> first | rfl | skip
  rename_i z
  show valsOf cs z = []
  unfold valsOf spotOf
  rw [List.findIdx_eq_length.mpr fun c hc => decide_eq_false fun e => (Bool.eq_false_iff.mp h) (hasCol_str.mpr ⟨c, hc, e⟩), List.getD_eq_getElem?_getD, List.getElem?_eq_none (Nat.le_refl _)]
  rfl
theorem valsD_ne {cs : List Cl} {x : Str} (hC : Cols cs) (h : hasCol cs (.str x) = true) : (valsOf cs x).isEmpty = false := by
  have := (hC.vals h).2.2.1
  cases hv : valsOf cs x with
  | nil => rw [hv] at this; simp at this
  | cons a b => rfl
theorem Cols.pure {cs : List Cl} {d : D} (hC : Cols cs) (h : hasCol cs d = true) : ∀ v ∈ valsD cs d, FL.pure v = true := by
  obtain ⟨x, rfl, _⟩ := hasCol_iff.mp h
  intro v hv
  rcases (hC.vals h).2.1 with q | q <;> (obtain ⟨i, rfl⟩ := q v hv; rfl)
def strB (cs : List Cl) (B : Str → Bool) (d : D) : Bool := match d with
  | .str x => hasCol cs (.str x) && B x
  | _ => false
theorem law_rule_5 {cs : List Cl} {many : Int} {w : Str} {a : D} {r : List D} {p : Addr} {M : Mem} {Q : QE} {X : QX} (B : Str → Bool) (hC : Cols cs) (hp : pure a = true)
    (h : dropQ Q (.bl (strB cs B a)) M)
    (k : ∀ x, a = .str x → hasCol cs (.str x) = true → dropQ Q (.bl (B x)) M → w__law_is_rule_7 [some (colsD cs), some (D.int many), some (D.tup (D.str w :: a :: r)), some (D.ptr p), some (.tup (valsOf cs x)), none, none] M (outP (dropQ Q) (dropQ X))) :
    w__law_is_rule_5 [some (colsD cs), some (D.int many), some (D.tup (D.str w :: a :: r)), some (D.ptr p), none, none, none] M (outP (dropQ Q) (dropQ X)) := by
  simp [↓w__law_is_rule_5, hC.few, hp]
  simp [↓w__law_is_rule_6]
  by_cases e : hasCol cs a = true
  · refine ⟨hC.pure e, ?_⟩
    obtain ⟨x, rfl, _⟩ := hasCol_iff.mp e
    unfold strB at h
    dsimp only at h
    rw [e] at h
    rw [eqDs_nilR, show (valsD cs (.str x)).isEmpty = false from valsD_ne hC e]
    exact k x rfl e (by simpa using h)
  · have e' : hasCol cs a = false := by simpa using e
    rw [valsD_nil e']
    refine ⟨fun _ z => (nomatch z), ?_⟩
    simp
    unfold strB at h
    cases a <;> first | exact h | skip
    dsimp only at h
    rw [e'] at h
    exact h
theorem lawTwo_eq {cs : List Cl} {w x : Str} {b : D} (hC : Cols cs) : lawTwo w (valsOf cs x) (valsD cs b) (!eqD (.str x) b) = isOfTwo cs w x b := by
  unfold lawTwo isOfTwo
  have he : (valsD cs b).isEmpty = !hasCol cs b := by
    by_cases e : hasCol cs b = true
    · obtain ⟨y, rfl, _⟩ := hasCol_iff.mp e
      rw [e]; exact valsD_ne hC e
    · have e' : hasCol cs b = false := by simpa using e
      rw [valsD_nil e', e']; rfl
  rw [he]
  generalize numsD (valsOf cs x) = n1
  generalize numsD (valsD cs b) = n2
  generalize hasCol cs b = h1
  generalize eqD (.str x) b = h2
  by_cases e1 : w = Str.ofString "lead" <;> by_cases e2 : w = Str.ofString "less" <;> cases n1 <;> cases n2 <;> cases h1 <;> cases h2 <;> simp [e1, e2]
theorem homo_valsD {cs : List Cl} {b : D} (hC : Cols cs) : Homo (valsD cs b) := by
  by_cases e : hasCol cs b = true
  · obtain ⟨y, rfl, _⟩ := hasCol_iff.mp e
    exact (hC.vals e).2.1
  · have e' : hasCol cs b = false := by simpa using e
    rw [valsD_nil e']; exact .inl fun _ z => nomatch z
theorem flat_valsD {cs : List Cl} {b : D} (hC : Cols cs) : (valsD cs b).all flatD = true := by
  rw [List.all_eq_true]
  intro d hd
  rcases homo_valsD hC (b := b) with h | h <;> (obtain ⟨i, rfl⟩ := h d hd; rfl)
theorem valsD_mt {cs : List Cl} {b : D} (hC : Cols cs) : (valsD cs b).isEmpty = !hasCol cs b := by
  by_cases e : hasCol cs b = true
  · obtain ⟨y, rfl, _⟩ := hasCol_iff.mp e
    rw [e]; exact valsD_ne hC e
  · have e' : hasCol cs b = false := by simpa using e
    rw [valsD_nil e', e']; rfl
theorem law_rule_tail {cs : List Cl} {many : Int} {d : D} {p : Addr} {M : Mem} {Q : QE} {X : QX} (hm : M p = some (.md (lens.map fun q => ((Sum.inr q.1 : Key), D.int q.2)))) (hC : Cols cs) (hp : pure d = true) (hf : ∀ xs, d = .tup xs → ∀ e ∈ xs, few e) (h : dropQ Q (.bl (isRule cs many d)) M) :
    w__law_is_rule_2 [some (colsD cs), some (D.int many), some d, some (D.ptr p), none, none, none] M (outP (dropQ Q) (dropQ X)) := by
  cases d <;> first | (cases hp; done) | (simp [↓w__law_is_rule_2, isTyD, isRule] at h ⊢; exact h) | skip
  rename_i xs
  simp at hp
  match xs with
  | [] => simp [↓w__law_is_rule_2, isTyD, isRule] at h ⊢; exact h
  | d0 :: rest =>
    by_cases hs : isStr d0 = true
    · cases d0 <;> first | (cases hs; done) | skip
      rename_i w
      simp at hp
      simp [↓w__law_is_rule_2, isTyD, isRule] at h ⊢
      refine ⟨hp, ?_⟩
      simp [↓w__law_is_rule_3, viewD_ptr hm, keyOf, hm]
      replace hf := hf _ rfl
      by_cases hl : (List.lookup w lens).getD 0 = (rest.length : Int) + 1
      · rw [if_pos hl]
        rcases lens_of hl (by omega) with ⟨rfl, e⟩ | ⟨rfl, e⟩ | ⟨rfl, e⟩ | ⟨rfl, e⟩ | ⟨rfl, e⟩ | ⟨rfl, e⟩ | ⟨rfl, e⟩ | ⟨rfl, e⟩ | ⟨rfl, e⟩ | ⟨rfl, e⟩ | ⟨rfl, e⟩ | ⟨rfl, e⟩
        all_goals simp [hl] at h
        all_goals simp [↓w__law_is_rule_4]
        · obtain ⟨a, b, rfl⟩ := len2 (l := rest) (by omega)
          simp at hp hf
          refine law_rule_5 (fun x => isOfTwo cs "less" x b) hC hp.1 h fun x ea hx g => ?_
          subst ea
          simp [↓w__law_is_rule_7, ↓w__law_is_rule_8, hC.few, hp, deref_pure hp.2]
          exact ⟨(hC.vals hx).2.1, (hC.vals hx).2.2.1, homo_valsD hC, by rw [lawTwo_eq hC]; exact g⟩
        · obtain ⟨a, b, rfl⟩ := len2 (l := rest) (by omega)
          simp at hp hf
          refine law_rule_5 (fun x => isOfTwo cs "same" x b) hC hp.1 h fun x ea hx g => ?_
          subst ea
          simp [↓w__law_is_rule_7, ↓w__law_is_rule_8, hC.few, hp, deref_pure hp.2]
          exact ⟨(hC.vals hx).2.1, (hC.vals hx).2.2.1, homo_valsD hC, by rw [lawTwo_eq hC]; exact g⟩
        · obtain ⟨a, b, rfl⟩ := len2 (l := rest) (by omega)
          simp at hp hf
          refine law_rule_5 (fun x => isOfTwo cs "apart" x b) hC hp.1 h fun x ea hx g => ?_
          subst ea
          simp [↓w__law_is_rule_7, ↓w__law_is_rule_8, hC.few, hp, deref_pure hp.2]
          exact ⟨(hC.vals hx).2.1, (hC.vals hx).2.2.1, homo_valsD hC, by rw [lawTwo_eq hC]; exact g⟩
        · obtain ⟨a, b, c, d, rfl⟩ := len4 (l := rest) (by omega)
          simp at hp hf
          refine law_rule_5 (fun x => hasCol cs c && !eqD (.str x) c && isValue (valsOf cs x) b && areSome (valsD cs c) d) hC hp.1 h fun x ea hx g => ?_
          subst ea
          simp [↓w__law_is_rule_7, hC.few, hp, deref_pure hp.2.2.1]
          have fl := List.all_eq_true.mp (flat_valsD (b := c) hC)
          have fx := List.all_eq_true.mp (hC.vals hx).1
          rw [eqDs_nilR, valsD_mt hC]
          cases e1 : hasCol cs c with
          | false =>
            refine ⟨by rw [valsD_nil e1]; exact fun _ z => (nomatch z), ?_⟩
            simpa [e1] using g
          | true =>
            refine ⟨hC.pure e1, ?_⟩
            simp only [e1, Bool.not_true, Bool.false_eq_true, if_false, Bool.true_and] at g ⊢
            refine iteI (fun e2 => ?_) (fun e2 => ?_)
            · simpa [e2] using g
            ·
              have e2' : eqD (.str x) c = false := by simpa using e2
              simp only [e2', Bool.not_false, Bool.true_and] at g
              refine ⟨fx, ?_⟩
              cases e3 : isValue (valsOf cs x) b with
              | false => simpa [e3] using g
              | true =>
                rw [e3] at g
                simp at g ⊢
                exact ⟨fl, homo_valsD hC, hf.2.2.2.2, g⟩
        · obtain ⟨a, b, rfl⟩ := len2 (l := rest) (by omega)
          simp at hp hf
          refine law_rule_5 (fun x => areSome (valsOf cs x) b) hC hp.1 h fun x ea hx g => ?_
          subst ea
          simp [↓w__law_is_rule_7, ↓w__law_is_rule_8, ↓w__law_is_rule_9, hp]
          exact ⟨List.all_eq_true.mp (hC.vals hx).1, (hC.vals hx).2.1, hf.2.2, g⟩
        · obtain ⟨a, rfl⟩ := len1 (l := rest) (by omega)
          simp at hp hf
          refine law_rule_5 (fun x => true) hC hp h fun x ea hx g => ?_
          subst ea
          simp [↓w__law_is_rule_7, ↓w__law_is_rule_8, ↓w__law_is_rule_9, ↓w__law_is_rule_10, ↓w__law_is_rule_11, ↓w__law_is_rule_12]
          exact g
        · obtain ⟨a, rfl⟩ := len1 (l := rest) (by omega)
          simp at hp hf
          refine law_rule_5 (fun x => true) hC hp h fun x ea hx g => ?_
          subst ea
          simp [↓w__law_is_rule_7, ↓w__law_is_rule_8, ↓w__law_is_rule_9, ↓w__law_is_rule_10, ↓w__law_is_rule_11, ↓w__law_is_rule_12]
          exact g
        · obtain ⟨a, b, c, rfl⟩ := len3 (l := rest) (by omega)
          simp at hp hf
          refine law_rule_5 (fun x => isOfOne cs many "sum" x [b, c]) hC hp.1 h fun x ea hx g => ?_
          subst ea
          simp [↓w__law_is_rule_7, ↓w__law_is_rule_8, ↓w__law_is_rule_9, ↓w__law_is_rule_10, hp]
          have h1 := (hC.vals hx).2.2.1
          have hnum : ∃ v, atI (valsOf cs x) 0 = some v ∧ (tyOf (deref M v)).isSome = true ∧ isTy M .int v = numsD (valsOf cs x) := by
            refine ⟨_, atI_nth (i := 0) (by omega), ?_⟩
            have hm := nth_mem (ds := valsOf cs x) (i := 0) (by omega)
            unfold numsD
            rcases (hC.vals hx).2.1 with q | q <;> (obtain ⟨a, ea⟩ := q _ hm; rw [ea]; exact ⟨rfl, rfl⟩)
          obtain ⟨v, ev, tv, nv⟩ := hnum
          unfold isOfOne at g
          simp at g
          cases b <;> first
            | (simp [isWhole] at g ⊢; exact ⟨v, ev, tv, g⟩)
            | skip
          rename_i lo
          cases eb : isWhole (.int lo) 0 999 with
          | false => 
            simp [eb] at g ⊢
            exact ⟨v, ev, tv, g⟩
          | true =>
            simp [eb] at g ⊢
            refine ⟨v, ev, tv, ?_⟩
            rw [nv]
            cases en : numsD (valsOf cs x) with
            | false => simpa [en] using g
            | true =>
              simp [en] at g ⊢
              cases c <;> first
                | (simp [isWhole] at g ⊢; exact g)
                | skip
              rename_i hi
              simp [isWhole] at g eb ⊢
              by_cases e1 : lo ≤ hi <;> by_cases e2 : 0 ≤ hi <;> by_cases e3 : hi ≤ 999 <;> simp [e1, e2, e3] at g ⊢ <;> first | exact g | (exfalso; omega)
        · obtain ⟨a, b, c, d, rfl⟩ := len4 (l := rest) (by omega)
          simp at hp hf
          refine law_rule_5 (fun x => isOfOne cs many "share" x [b, c, d]) hC hp.1 h fun x ea hx g => ?_
          subst ea
          simp [↓w__law_is_rule_7, ↓w__law_is_rule_8, ↓w__law_is_rule_9, ↓w__law_is_rule_10, ↓w__law_is_rule_11, hp]
          have fx := List.all_eq_true.mp (hC.vals hx).1
          unfold isOfOne at g
          simp at g
          cases c <;> first
            | (simp [isWhole] at g ⊢; exact ⟨fx, g⟩)
            | skip
          rename_i lo
          cases eb : isWhole (.int lo) 0 many with
          | false => 
            simp [eb] at g ⊢
            exact ⟨fx, g⟩
          | true =>
            simp [eb] at g ⊢
            refine ⟨fx, ?_⟩
            cases en : isValue (valsOf cs x) b with
            | false => simpa [en] using g
            | true =>
              simp [en] at g ⊢
              cases d <;> first
                | (simp [isWhole] at g ⊢; exact g)
                | skip
              rename_i hi
              simp [isWhole] at g eb ⊢
              by_cases e1 : lo ≤ hi <;> by_cases e2 : 0 ≤ hi <;> by_cases e3 : hi ≤ many <;> simp [e1, e2, e3] at g ⊢ <;> first | exact g | (exfalso; omega)
        · obtain ⟨a, rfl⟩ := len1 (l := rest) (by omega)
          simp at hp hf
          refine law_rule_5 (fun x => true) hC hp h fun x ea hx g => ?_
          subst ea
          simp [↓w__law_is_rule_7, ↓w__law_is_rule_8, ↓w__law_is_rule_9, ↓w__law_is_rule_10, ↓w__law_is_rule_11, ↓w__law_is_rule_12]
          exact g
        · obtain ⟨a, b, c, rfl⟩ := len3 (l := rest) (by omega)
          simp at hp hf
          simp [hp, hC.few]
          cases e1 : isWhole a 0 (many - 1) with
          | false => simpa [e1] using h
          | true =>
            simp [e1] at h ⊢
            refine ⟨List.all_eq_true.mp (flat_valsD hC), ?_⟩
            cases e2 : hasCol cs b with
            | true => simpa [e2] using h
            | false =>
              simp [e2] at h
              rw [valsD_nil e2]
              simpa [isValue] using h
        · obtain ⟨a, b, rfl⟩ := len2 (l := rest) (by omega)
          simp at hp hf
          refine law_rule_5 (fun x => isOfTwo cs "lead" x b) hC hp.1 h fun x ea hx g => ?_
          subst ea
          simp [↓w__law_is_rule_7, ↓w__law_is_rule_8, hC.few, hp, deref_pure hp.2]
          exact ⟨(hC.vals hx).2.1, (hC.vals hx).2.2.1, homo_valsD hC, by rw [lawTwo_eq hC]; exact g⟩
      · rw [if_neg hl]
        simp [hl] at h
        exact h
    · cases d0 <;> first | (exact absurd rfl hs) | skip
      all_goals first | (simp at hp; done) | (simp at hp; simp [↓w__law_is_rule_2, isTyD, isRule, hp] at h ⊢; first | exact h | exact ⟨hp, h⟩ | exact ⟨hp.2, h⟩)
theorem p__law_is_rule : Imp g__law_is_rule (defW N__law_is_rule w__law_is_rule) := by
  intro ds M Q X h
  unfold g__law_is_rule at h
  split at h
  · rename_i many d
    obtain ⟨cs, rfl, hC, hp, hf, h⟩ := h
    replace h := dropQ.self h
    simp [↓defW, env0, ↓w__law_is_rule]
    intro p hpp
    refine ⟨_, rfl, by decide, ?_⟩
    simp [↓w__law_is_rule_1]
    intro a ha
    have hne : p ≠ a := fun e => by rw [← e, put_same] at ha; cases ha
    have haM : M a = none := by rwa [put_ne hne.symm] at ha
    refine ⟨_, rfl, by decide, hne, _, by rw [put_ne hne, put_same], by decide +kernel, ?_⟩
    have hk : mergeD (mergeD [] [(Sum.inr (Str.ofString "less"), D.int 3), (Sum.inr (Str.ofString "same"), D.int 3), (Sum.inr (Str.ofString "apart"), D.int 3), (Sum.inr (Str.ofString "if"), D.int 5), (Sum.inr (Str.ofString "only"), D.int 3), (Sum.inr (Str.ofString "key"), D.int 2), (Sum.inr (Str.ofString "rising"), D.int 2), (Sum.inr (Str.ofString "sum"), D.int 4), (Sum.inr (Str.ofString "share"), D.int 5)])
      (mergeD [] [(Sum.inr (Str.ofString "each"), D.int 2), (Sum.inr (Str.ofString "held"), D.int 4), (Sum.inr (Str.ofString "lead"), D.int 3)]) = lens.map fun q => ((Sum.inr q.1 : Key), D.int q.2) := by rfl
    rw [hk]
    exact law_rule_tail put_same hC hp hf (h.sub2 (((Sub.refl.ext hpp).ext haM).ext hpp))
  · exact h.elim
end FL
set_option Elab.async false
set_option linter.all false
set_option maxRecDepth 100000
set_option maxHeartbeats 400000
namespace FL
open PySem PySem.Spec PyProof.Rows L2 Evl
theorem Sub.none {M M' : Mem} {q : Addr} (s : Sub M M') (h : M' q = .none) : M q = .none := by
  cases e : M q with
  | none => rfl
  | some m => rw [s _ _ e] at h; cases h
end FL
set_option Elab.async false
set_option linter.all false
set_option maxRecDepth 100000
set_option maxHeartbeats 400000
namespace FL
open PySem PySem.Spec PyProof.Rows L2 Evl
/-! ### what are columns, rows -/
/-- bounded data -/
def Bd (d : D) : Prop := ∃ b m, NB b m d ∧ b ≤ 100000 ∧ m ≤ 60
theorem Bd.pure {d : D} (h : Bd d) : FL.pure d = true := let ⟨_, _, h, _⟩ := h; h.pure
theorem Bd.dep {d : D} (h : Bd d) : FL.dep d ≤ 64 := by obtain ⟨_, _, h, _, hm⟩ := h; have := h.dep; omega
theorem Bd.tup {ds : List D} (h : Bd (.tup ds)) : (∀ d ∈ ds, Bd d) ∧ ds.length ≤ 100000 := by
  obtain ⟨b, m, h, hb, hm⟩ := h
  obtain ⟨k, rfl, h1, h2⟩ := h.items
  exact ⟨fun d hd => ⟨b, k, h2 d hd, hb, by omega⟩, by omega⟩
theorem Bd.str {z : Str} (h : Bd (.str z)) : z.length ≤ 100000 := by
  obtain ⟨b, m, h, hb, hm⟩ := h
  have := h.str'; omega
theorem Bd.few {d : D} (h : Bd d) : FL.few d := by
  obtain ⟨b, m, h, hb, hm⟩ := h
  cases h <;> first | trivial | (show _ ≤ _; omega)
def isWordD (d : D) : Bool := match d with
  | .str z => decide (1 ≤ z.length) && decide (z.length ≤ 8) && z.cps.toList.all fun c => decide (c ∈ small.cps.toList)
  | _ => false
def areValuesD (d : D) : Bool := match d with
  | .tup xs => decide (1 ≤ xs.length) && decide (xs.length ≤ 8) && (xs.all isWordD || xs.all fun x => isWhole x 0 99) && rise xs
  | _ => false
def isColumnD (d : D) : Bool := match d with
  | .tup [a, b] => isWordD a && areValuesD b
  | _ => false
def headD (d : D) : D := match d with
  | .tup (a :: _) => a
  | _ => .non
def headK (d : D) : Key := match headD d with
  | .str x => .inr x
  | _ => .inl 0
def areColumnsD (d : D) : Bool := match d with
  | .tup cs => decide (1 ≤ cs.length) && decide (cs.length ≤ 3) && cs.all isColumnD && decide ((dedK (cs.map headK)).length = cs.length)
  | _ => false
def isRowD (cs : List Cl) (d : D) : Bool := match d with
  | .tup xs => decide (xs.length = cs.length) && (List.zipWith (fun (c : Cl) v => isValue (valsOf cs c.1) v) cs xs).all id
  | _ => false
@[simp ↓] def g_is_word : Fn := fun ds M Q _ => match ds with
  | [d] => Bd d ∧ Q (.bl (isWordD d)) M
  | _ => False
@[simp ↓] def g_are_values : Fn := fun ds M Q _ => match ds with
  | [d] => Bd d ∧ Q (.bl (areValuesD d)) M
  | _ => False
@[simp ↓] def g_is_column : Fn := fun ds M Q _ => match ds with
  | [d] => Bd d ∧ Q (.bl (isColumnD d)) M
  | _ => False
@[simp ↓] def g_are_columns : Fn := fun ds M Q _ => match ds with
  | [d] => Bd d ∧ Q (.bl (areColumnsD d)) M
  | _ => False
@[simp ↓] def g_is_row : Fn := fun ds M Q _ => match ds with
  | [c, d] => ∃ cs, c = colsD cs ∧ Cols cs ∧ pure d = true ∧ Q (.bl (isRowD cs d)) M
  | _ => False
/- is_word: 0 thing 1 sign -/
abbrev N_is_word : List Str := ["thing", "sign"]
def w_is_word : SS := (sSeq (sRet (wAnd (wIs1 .str (wSlot 0)) (wAnd (w3 sLe sLe (wC (.int 1)) (wF sLen (aCons (wSlot 0) aNil)) (wC (.int 8))) (wF sAll (aCons (wLc false (wIt (wSlot 0)) (asT1 1) [1] tTrue (w2 (sInD false) (wSlot 1) (wC (.str small)))) aNil)))))
sNil)
/- are_values: 0 thing 1 one -/
abbrev N_are_values : List Str := ["thing", "one"]
def w_are_values : SS := (sSeq (sIf (tOr (tNot (wTest (wIs1 .tuple (wSlot 0)))) (tNot (wTest (w3 sLe sLe (wC (.int 1)) (wF sLen (aCons (wSlot 0) aNil)) (wC (.int 8))))))
 (sSeq (sRet (wC (.bl false)))
sNil)
 sNil)
(sSeq (sIf (tAnd (tNot (wTest (wF sAll (aCons (wLc false (wIt (wSlot 0)) (asT1 1) [1] tTrue (wCall 1 g_is_word (aCons (wSlot 1) aNil))) aNil)))) (tNot (wTest (wF sAll (aCons (wLc false (wIt (wSlot 0)) (asT1 1) [1] tTrue (wCall 3 g_is_whole (aCons (wSlot 1) (aCons (wC (.int 0)) (aCons (wC (.int 99)) aNil))))) aNil)))))
 (sSeq (sRet (wC (.bl false)))
sNil)
 sNil)
(sSeq (sRet (wCall 1 g_rise (aCons (wSlot 0) aNil)))
sNil)))
/- is_column: 0 thing -/
abbrev N_is_column : List Str := ["thing"]
def w_is_column : SS := (sSeq (sRet (wAnd (wIs1 .tuple (wSlot 0)) (wAnd (w2 (sEq false) (wF sLen (aCons (wSlot 0) aNil)) (wC (.int 2))) (wAnd (wCall 1 g_is_word (aCons (w2 sSub1 (wSlot 0) (wC (.int 0))) aNil)) (wCall 1 g_are_values (aCons (w2 sSub1 (wSlot 0) (wC (.int 1))) aNil))))))
sNil)
/- are_columns: 0 thing 1 one -/
abbrev N_are_columns : List Str := ["thing", "one"]
def w_are_columns : SS := (sSeq (sIf (tOr (tNot (wTest (wIs1 .tuple (wSlot 0)))) (tNot (wTest (w3 sLe sLe (wC (.int 1)) (wF sLen (aCons (wSlot 0) aNil)) (wC (.int 3))))))
 (sSeq (sRet (wC (.bl false)))
sNil)
 sNil)
(sSeq (sIf (tNot (wTest (wF sAll (aCons (wLc false (wIt (wSlot 0)) (asT1 1) [1] tTrue (wCall 1 g_is_column (aCons (wSlot 1) aNil))) aNil))))
 (sSeq (sRet (wC (.bl false)))
sNil)
 sNil)
(sSeq (sRet (w2 (sEq false) (wLenSet (wLc false (wIt (wSlot 0)) (asT1 1) [1] tTrue (w2 sSub1 (wSlot 1) (wC (.int 0))))) (wF sLen (aCons (wSlot 0) aNil))))
sNil)))
/- is_row: 0 columns 1 thing 2 column 3 value -/
abbrev N_is_row : List Str := ["columns", "thing", "column", "value"]
def w_is_row : SS := (sSeq (sIf (tOr (tNot (wTest (wIs1 .tuple (wSlot 1)))) (wTest (w2 (sEq true) (wF sLen (aCons (wSlot 1) aNil)) (wF sLen (aCons (wSlot 0) aNil)))))
 (sSeq (sRet (wC (.bl false)))
sNil)
 sNil)
(sSeq (sRet (wF sAll (aCons (wLc false (wZipA (aCons (wSlot 0) (aCons (wSlot 1) aNil))) (asT [2, 3]) [2, 3] tTrue (wCall 3 g_is_value (aCons (wSlot 0) (aCons (w2 sSub1 (wSlot 2) (wC (.int 0))) (aCons (wSlot 3) aNil))))) aNil)))
sNil))
theorem p_is_word : Imp g_is_word (defW N_is_word w_is_word) := by
  intro ds M Q X h
  unfold g_is_word at h
  split at h
  · rename_i d
    obtain ⟨hbd, h⟩ := h
    have hp := hbd.pure
    replace h := dropQ.self h
    simp [↓defW, env0, ↓w_is_word, tyOf_pure hp, isTy_pure hp]
    cases d <;> first | (cases hp; done) | (simp [isTyD, isWordD] at h ⊢; exact h) | skip
    rename_i z
    simp [isTyD]
    refine ⟨hbd.str, ?_⟩
    by_cases h1 : 1 ≤ z.length
    · by_cases h2 : z.length ≤ 8
      · rw [if_pos (by omega), if_pos (by omega)]
        refine wLc_map (fun d => match d with | .str y => .bl (decide (∃ c ∈ y.cps.toList, c ∈ small.cps.toList)) | _ => .non) (ds := signsD z) (fun R q => by simpa using q) (by unfold signsD; rw [List.length_map]; exact hbd.str) (fun d hd => ?_) ?_
        · obtain ⟨c, hc, rfl⟩ := List.mem_map.mp hd
          refine ⟨_, rfl, fun M' R q => ?_⟩
          simp [wipeE] at q ⊢
          exact q
        · have e : (signsD z).map (fun d => match d with | .str y => D.bl (decide (∃ c ∈ y.cps.toList, c ∈ small.cps.toList)) | _ => .non) = z.cps.toList.map fun c => D.bl (decide (c ∈ small.cps.toList)) := by
            unfold signsD
            rw [List.map_map]
            refine List.map_congr_left fun c _ => ?_
            show D.bl (decide (∃ c' ∈ [c], c' ∈ small.cps.toList)) = _
            congr 1
            simp
          rw [e, sAll_bls]
          unfold isWordD at h
          dsimp only at h
          rw [decide_eq_true h1, decide_eq_true h2, Bool.true_and, Bool.true_and] at h
          exact h
      · rw [if_pos (by omega), if_neg (by omega)]
        simpa [isWordD, h2] using h
    · rw [if_neg (by omega)]
      have h3 : ¬ 1 ≤ z.length := h1
      simpa [isWordD, h3] using h
  · exact h.elim
theorem p_are_values : Imp g_are_values (defW N_are_values w_are_values) := by
  intro ds M Q X h
  unfold g_are_values at h
  split at h
  · rename_i d
    obtain ⟨hbd, h⟩ := h
    have hp := hbd.pure
    replace h := dropQ.self h
    simp [↓defW, env0, ↓w_are_values, tyOf_pure hp, isTy_pure hp]
    cases d <;> first | (cases hp; done) | (simp [isTyD, areValuesD] at h ⊢; exact h) | skip
    rename_i xs
    simp [isTyD]
    obtain ⟨hbx, _⟩ := hbd.tup
    have hpx : ∀ x ∈ xs, pure x = true := fun x hx => (hbx x hx).pure
    by_cases h1 : 1 ≤ xs.length
    · by_cases h2 : xs.length ≤ 8
      · rw [if_pos (by omega), if_neg (by omega)]
        refine wLc_map (fun d => .bl (isWordD d)) (ds := xs) (fun R q => by simpa using q) (by omega) (fun d hd => ⟨_, rfl, fun M' R q => by simp [wipeE]; exact ⟨hbx d hd, q⟩⟩) ?_
        rw [sAll_bls]
        dsimp only
        have hh : ∀ xs, (xs.all isWordD = true ∨ (xs.all fun x => isWhole x 0 99) = true) → Homo xs := fun xs hx => by
          rcases hx with hx | hx
          · refine .inr fun d hd => ?_
            have := List.all_eq_true.mp hx d hd
            cases d <;> first | exact ⟨_, rfl⟩ | (cases this; done)
          · refine .inl fun d hd => ?_
            have := List.all_eq_true.mp hx d hd
            cases d <;> first | exact ⟨_, rfl⟩ | (cases this; done)
        unfold areValuesD at h
        simp only [decide_eq_true h1, decide_eq_true h2, Bool.true_and] at h
        cases e1 : xs.all isWordD with
        | true =>
          rw [if_pos rfl]
          rw [e1] at h
          exact ⟨hh xs (.inl e1), by omega, by simpa using h⟩
        | false =>
          rw [if_neg (by simp)]
          rw [e1] at h
          refine wLc_map (fun d => .bl (isWhole d 0 99)) (ds := xs) (fun R q => by simpa using q) (by omega) (fun d hd => ⟨_, rfl, fun M' R q => by simp [wipeE]; exact ⟨hpx d hd, q⟩⟩) ?_
          rw [sAll_bls]
          dsimp only
          cases e2 : xs.all fun x => isWhole x 0 99 with
          | true =>
            rw [if_pos rfl]
            rw [e2] at h
            exact ⟨hh xs (.inr e2), by omega, by simpa using h⟩
          | false =>
            rw [if_neg (by simp)]
            rw [e2] at h
            simpa using h
      · rw [if_pos (by omega), if_pos (by omega)]
        simpa [areValuesD, h2] using h
    · rw [if_neg (by omega)]
      have h3 : ¬ 1 ≤ xs.length := h1
      simpa [areValuesD, h3] using h
  · exact h.elim
theorem p_is_column : Imp g_is_column (defW N_is_column w_is_column) := by
  intro ds M Q X h
  unfold g_is_column at h
  split at h
  · rename_i d
    obtain ⟨hbd, h⟩ := h
    have hp := hbd.pure
    replace h := dropQ.self h
    simp [↓defW, env0, ↓w_is_column, tyOf_pure hp, isTy_pure hp]
    cases d <;> first | (cases hp; done) | (simp [isTyD, isColumnD] at h ⊢; exact h) | skip
    rename_i xs
    simp [isTyD]
    obtain ⟨hbx, _⟩ := hbd.tup
    by_cases h2 : xs.length = 2
    · obtain ⟨a, b, rfl⟩ := len2 h2
      simp at hbx ⊢
      have hpa := hbx.1.pure
      refine ⟨hbx.1, ?_⟩
      cases e1 : isWordD a <;> simp [e1, isColumnD] at h ⊢
      · exact h
      · exact ⟨hbx.2, h⟩
    · rw [if_neg (by omega)]
      have : isColumnD (.tup xs) = false := by
        unfold isColumnD
        split
        · rename_i e; cases e; simp at h2
        · rfl
      rw [this] at h
      exact h
  · exact h.elim
theorem p_are_columns : Imp g_are_columns (defW N_are_columns w_are_columns) := by
  intro ds M Q X h
  unfold g_are_columns at h
  split at h
  · rename_i d
    obtain ⟨hbd, h⟩ := h
    have hp := hbd.pure
    replace h := dropQ.self h
    simp [↓defW, env0, ↓w_are_columns, tyOf_pure hp, isTy_pure hp]
    cases d <;> first | (cases hp; done) | (simp [isTyD, areColumnsD] at h ⊢; exact h) | skip
    rename_i xs
    simp [isTyD]
    obtain ⟨hbx, _⟩ := hbd.tup
    by_cases h1 : 1 ≤ xs.length
    · by_cases h2 : xs.length ≤ 3
      · rw [if_pos (by omega), if_neg (by omega)]
        refine wLc_map (fun d => .bl (isColumnD d)) (ds := xs) (fun R q => by simpa using q) (by omega) (fun d hd => ⟨_, rfl, fun M' R q => by simp [wipeE]; exact ⟨hbx d hd, q⟩⟩) ?_
        rw [sAll_bls]
        dsimp only
        unfold areColumnsD at h
        simp only [decide_eq_true h1, decide_eq_true h2, Bool.true_and] at h
        cases e1 : xs.all isColumnD with
        | false =>
          rw [if_neg (by simp)]
          rw [e1] at h
          simpa using h
        | true =>
          rw [if_pos rfl]
          rw [e1] at h
          have hhead : ∀ d ∈ xs, ∃ z, headD d = .str z ∧ ∃ b, d = .tup [.str z, b] := fun d hd => by
            have := List.all_eq_true.mp e1 d hd
            unfold isColumnD at this
            split at this
            · rename_i a b
              have hw := (Bool.and_eq_true_iff.mp this).1
              cases a <;> first | (cases hw; done) | skip
              exact ⟨_, rfl, _, rfl⟩
            · cases this
          refine wLc_map headD (ds := xs) (fun R q => by simpa using q) (by omega) (fun d hd => ⟨_, rfl, fun M' R q => ?_⟩) ?_
          · obtain ⟨z, hz, b, rfl⟩ := hhead d hd
            simpa [wipeE, headD] using q
          · refine ⟨_, rfl, xs.map headK, ?_, by rw [List.length_map]; omega, ?_⟩
            · rw [List.map_map, List.map_map]
              refine List.map_congr_left fun d hd => ?_
              obtain ⟨z, hz, b, rfl⟩ := hhead d hd
              rfl
            · have e2 : decide (((dedK (xs.map headK)).length : Int) = (xs.length : Int)) = decide ((dedK (xs.map headK)).length = xs.length) := by
                rw [decide_eq_decide]; omega
              rw [e2]
              simpa using h
      · rw [if_pos (by omega), if_pos (by omega)]
        simpa [areColumnsD, h2] using h
    · rw [if_neg (by omega)]
      have h3 : ¬ 1 ≤ xs.length := h1
      simpa [areColumnsD, h3] using h
  · exact h.elim
theorem p_is_row : Imp g_is_row (defW N_is_row w_is_row) := by
  intro ds M Q X h
  unfold g_is_row at h
  split at h
  · rename_i d
    obtain ⟨cs, rfl, hC, hp, h⟩ := h
    replace h := dropQ.self h
    simp [↓defW, env0, ↓w_is_row, tyOf_pure hp, isTy_pure hp]
    cases d <;> first | (cases hp; done) | (simp [isTyD, isRowD] at h ⊢; exact h) | skip
    rename_i xs
    simp [isTyD, colsD]
    by_cases hl : xs.length = cs.length
    · rw [if_pos (by omega)]
      refine wLc_map (fun d => match d with | .tup [.tup (.str x :: _), v] => .bl (isValue (valsOf cs x) v) | _ => .non) (ds := pairsD (cs.map colD) xs) (fun R q => by simpa using q) (by unfold pairsD; rw [List.length_zipWith]; have := hC.few; simp; omega) (fun d hd => ?_) ?_
      · unfold pairsD at hd
        rw [List.zipWith_map_left] at hd
        obtain ⟨n, hn, e⟩ := List.mem_iff_getElem.mp hd
        rw [List.getElem_zipWith] at e
        rw [List.length_zipWith] at hn
        have hc : cs[n] ∈ cs := List.getElem_mem _
        have hv : xs[n] ∈ xs := List.getElem_mem _
        subst e
        refine ⟨[some (D.tup (cs.map colD)), some (D.tup xs), some (colD cs[n]), some xs[n]], by simp [asT, asTs, wipeE], fun M' R q => ?_⟩
        simp [wipeE, colD] at q ⊢
        simp at hp
        exact ⟨cs, rfl, hasCol_str.mpr ⟨_, hc, rfl⟩, hC, hp _ hv, q⟩
      · have e : (pairsD (cs.map colD) xs).map (fun d => match d with | .tup [.tup (.str x :: _), v] => D.bl (isValue (valsOf cs x) v) | _ => .non) = (List.zipWith (fun (c : Cl) v => isValue (valsOf cs c.1) v) cs xs).map fun b => D.bl (id b) := by
          unfold pairsD
          rw [List.zipWith_map_left, List.map_zipWith, List.map_zipWith]
          rfl
        rw [e, sAll_bls]
        unfold isRowD at h
        dsimp only at h
        rw [decide_eq_true hl, Bool.true_and] at h
        exact h
    · rw [if_neg (by omega)]
      simpa [isRowD, hl] using h
  · exact h.elim
end FL
set_option Elab.async false
set_option linter.all false
set_option maxRecDepth 100000
set_option maxHeartbeats 400000
namespace FL
open PySem PySem.Spec PyProof.Rows L2 Evl
/-! ### the laws' own looks: words, columns, rows -/
@[simp ↓] def g__law_is_word : Fn := fun ds M Q _ => match ds with
  | [d] => Bd d ∧ Q (.bl (isWordD d)) M
  | _ => False
@[simp ↓] def g__law_are_values : Fn := fun ds M Q _ => match ds with
  | [d] => Bd d ∧ Q (.bl (areValuesD d)) M
  | _ => False
@[simp ↓] def g__law_are_columns : Fn := fun ds M Q _ => match ds with
  | [d] => Bd d ∧ Q (.bl (areColumnsD d)) M
  | _ => False
@[simp ↓] def g__law_is_row : Fn := fun ds M Q _ => match ds with
  | [c, d] => ∃ cs, c = colsD cs ∧ Cols cs ∧ (cs.map (·.1)).Nodup ∧ pure d = true ∧ Q (.bl (isRowD cs d)) M
  | _ => False
/- _law_is_word: 0 _law_thing_here 1 _law_sign -/
abbrev N__law_is_word : List Str := ["_law_thing_here", "_law_sign"]
def w__law_is_word : SS := (sSeq (sIf (tOr (tNot (wTest (wIs1 .str (wSlot 0)))) (tOr (wTest (w2 sLt (wF sLen (aCons (wSlot 0) aNil)) (wC (.int 1)))) (wTest (w2 sGt (wF sLen (aCons (wSlot 0) aNil)) (wC (.int 8))))))
 (sSeq (sRet (wC (.bl false)))
sNil)
 sNil)
(sSeq (sRet (w2 (sEq false) (wLc false (wIt (wSlot 0)) (asT1 1) [1] (wTest (w2 (sInD true) (wSlot 1) (wC (.str "abcdefghijklmnopqrstuvwxyz")))) (wSlot 1)) (wF (sLst false) aNil)))
sNil))
/- _law_are_values: 0 _law_thing_here 1 _law_words 2 _law_numbers 3 _law_one -/
abbrev N__law_are_values : List Str := ["_law_thing_here", "_law_words", "_law_numbers", "_law_one"]
def w__law_are_values : SS := (sSeq (sIf (tOr (tNot (wTest (wIs1 .tuple (wSlot 0)))) (tOr (wTest (w2 sLt (wF sLen (aCons (wSlot 0) aNil)) (wC (.int 1)))) (wTest (w2 sGt (wF sLen (aCons (wSlot 0) aNil)) (wC (.int 8))))))
 (sSeq (sRet (wC (.bl false)))
sNil)
 sNil)
(sSeq (sAsg (gSlot 1) (wLc false (wIt (wSlot 0)) (asT1 3) [3] (wTest (wCall 1 g__law_is_word (aCons (wSlot 3) aNil))) (wSlot 3)))
(sSeq (sAsg (gSlot 2) (wLc false (wIt (wSlot 0)) (asT1 3) [3] (wTest (wCall 3 g__law_is_number (aCons (wSlot 3) (aCons (wC (.int 0)) (aCons (wC (.int 99)) aNil))))) (wSlot 3)))
(sSeq (sRet (wAnd (w2 (sInD false) (wF sLen (aCons (wSlot 0) aNil)) (wF sTup (aCons (wF sLen (aCons (wSlot 1) aNil)) (aCons (wF sLen (aCons (wSlot 2) aNil)) aNil)))) (wCall 1 g__law_rising (aCons (wSlot 0) aNil))))
sNil))))
/- _law_are_columns: 0 _law_thing_here 1 _law_names 2 _law_one -/
abbrev N__law_are_columns : List Str := ["_law_thing_here", "_law_names", "_law_one"]
def w__law_are_columns : SS := (sSeq (sIf (tOr (tNot (wTest (wIs1 .tuple (wSlot 0)))) (tOr (wTest (w2 sLt (wF sLen (aCons (wSlot 0) aNil)) (wC (.int 1)))) (wTest (w2 sGt (wF sLen (aCons (wSlot 0) aNil)) (wC (.int 3))))))
 (sSeq (sRet (wC (.bl false)))
sNil)
 sNil)
(sSeq (sAsg (gSlot 1) wNewD)
(sSeq (lockIt 0 (sFor (wIt (wSlot 0)) (gSlot 2)
 (sSeq (sIf (tOr (tNot (wTest (wIs1 .tuple (wSlot 2)))) (tOr (wTest (w2 (sEq true) (wF sLen (aCons (wSlot 2) aNil)) (wC (.int 2)))) (tOr (tNot (wTest (wCall 1 g__law_is_word (aCons (w2 sSub1 (wSlot 2) (wC (.int 0))) aNil)))) (tNot (wTest (wCall 1 g__law_are_values (aCons (w2 sSub1 (wSlot 2) (wC (.int 1))) aNil)))))))
 (sSeq (sRet (wC (.bl false)))
sNil)
 sNil)
(sSeq (sAsg (gPut (wSlot 1) (w2 sSub1 (wSlot 2) (wC (.int 0)))) (wC (.bl true)))
sNil))))
(sSeq (sRet (w2 (sEq false) (wF sLen (aCons (wSlot 1) aNil)) (wF sLen (aCons (wSlot 0) aNil))))
sNil))))
/- _law_is_row: 0 _law_columns_here 1 _law_thing_here 2 _law_one 3 _law_column -/
abbrev N__law_is_row : List Str := ["_law_columns_here", "_law_thing_here", "_law_one", "_law_column"]
def w__law_is_row : SS := (sSeq (sIf (tOr (tNot (wTest (wIs1 .tuple (wSlot 1)))) (wTest (w2 (sEq true) (wF sLen (aCons (wSlot 1) aNil)) (wF sLen (aCons (wSlot 0) aNil)))))
 (sSeq (sRet (wC (.bl false)))
sNil)
 sNil)
(sSeq (sFor (wZipA (aCons (wSlot 1) (aCons (wSlot 0) aNil))) (gTuple [2, 3])
 (sSeq (sIf (tOr (wTest (wIs1 .bool (wSlot 2))) (tOr (tNot (wTest (wIs2 .int .str (wSlot 2)))) (wTest (w2 (sInD true) (wSlot 2) (w2 sSub1 (wSlot 3) (wC (.int 1)))))))
 (sSeq (sRet (wC (.bl false)))
sNil)
 sNil)
sNil))
(sSeq (sRet (wC (.bl true)))
sNil)))
theorem filter_len {α : Type} {p : α → Bool} : ∀ {l : List α}, ((l.filter p).length = l.length) ↔ l.all p = true
  | [] => by simp
  | a :: l => by
    have ih := filter_len (p := p) (l := l)
    have hle := List.length_filter_le p l
    rw [List.filter_cons, List.all_cons]
    cases p a with
    | true => simp [ih]
    | false => simp; omega
theorem homo_looks {xs : List D} (hx : xs.all isWordD = true ∨ (xs.all fun x => isWhole x 0 99) = true) : Homo xs := by
  rcases hx with hx | hx
  · refine .inr fun d hd => ?_
    have := List.all_eq_true.mp hx d hd
    cases d <;> first | exact ⟨_, rfl⟩ | (cases this; done)
  · refine .inl fun d hd => ?_
    have := List.all_eq_true.mp hx d hd
    cases d <;> first | exact ⟨_, rfl⟩ | (cases this; done)
theorem foldK_le : ∀ (ks acc : List Key), (ks.foldl stepK acc).length ≤ acc.length + ks.length
  | [], acc => by simp
  | k :: ks, acc => by
    have := foldK_le ks (stepK acc k)
    have h2 : (stepK acc k).length ≤ acc.length + 1 := by rw [stepK_len]; split <;> omega
    rw [List.foldl_cons, List.length_cons]; omega
theorem dedK_le (ks : List Key) : (dedK ks).length ≤ ks.length := by have := foldK_le ks []; simpa [dedK] using this
theorem dedK_snoc (ks : List Key) (k : Key) : dedK (ks ++ [k]) = stepK (dedK ks) k := by unfold dedK; rw [List.foldl_append]; rfl
theorem valsOf_nd {cs : List Cl} (hnd : (cs.map (·.1)).Nodup) {n : Nat} (hn : n < cs.length) : valsOf cs cs[n].1 = cs[n].2 := by
  have hs : spotOf cs cs[n].1 = n := by
    unfold spotOf
    refine (List.findIdx_eq hn).mpr ⟨decide_eq_true rfl, fun j hj => decide_eq_false fun e => ?_⟩
    have h1 : (cs.map (·.1))[j]? = some cs[n].1 := by rw [List.getElem?_map, List.getElem?_eq_getElem (by omega), ← e]; rfl
    have h2 : (cs.map (·.1))[n]? = some cs[n].1 := by rw [List.getElem?_map, List.getElem?_eq_getElem hn]; rfl
    have := (List.getElem?_inj (by rw [List.length_map]; omega) hnd).mp (h1.trans h2.symm)
    omega
  unfold valsOf
  rw [hs, List.getD_eq_getElem?_getD, List.getElem?_eq_getElem hn]
  rfl
theorem p__law_is_word : Imp g__law_is_word (defW N__law_is_word w__law_is_word) := by
  intro ds M Q X h
  unfold g__law_is_word at h
  split at h
  · rename_i d
    obtain ⟨hbd, h⟩ := h
    have hp := hbd.pure
    replace h := dropQ.self h
    simp [↓defW, env0, ↓w__law_is_word, tyOf_pure hp, isTy_pure hp]
    cases d <;> first | (cases hp; done) | (simp [isTyD, isWordD] at h ⊢; exact h) | skip
    rename_i z
    simp [isTyD]
    by_cases h1 : 1 ≤ z.length
    · by_cases h2 : z.length ≤ 8
      · rw [if_neg (by omega)]
        refine ⟨hbd.str, ?_⟩
        rw [if_neg (by omega)]
        refine ⟨hbd.str, ?_⟩
        refine wLc_filter (ds := signsD z) id (fun d => match d with | .str y => !decide (∃ c ∈ y.cps.toList, c ∈ small.cps.toList) | _ => false) (fun R q => by simpa using q) (by unfold signsD; rw [List.length_map]; exact hbd.str) (fun d hd => ?_) ?_
        · obtain ⟨c, hc, rfl⟩ := List.mem_map.mp hd
          refine ⟨_, rfl, fun M' R q => ?_, fun _ M' R q => by simpa [wipeE] using q⟩
          simp [wipeE, small] at q ⊢
          exact q
        · have hpl : ∀ l : List D, (∀ d ∈ l, d ∈ signsD z) → pure (.lst l) = true := fun l hl => by
            rw [pure_lst, List.all_eq_true]
            intro d hd
            obtain ⟨c, _, rfl⟩ := List.mem_map.mp (hl d hd)
            rfl
          rw [List.map_id]
          rw [deref_lst, eqD_lst, eqDs_nilR, isEmpty_filter]
          refine ⟨hpl _ fun d hd => (List.mem_filter.mp hd).1, by omega, ?_⟩
          unfold isWordD at h
          dsimp only at h
          rw [decide_eq_true h1, decide_eq_true h2, Bool.true_and, Bool.true_and] at h
          have e : ((signsD z).all fun d => !(match d with | .str y => !decide (∃ c ∈ y.cps.toList, c ∈ small.cps.toList) | _ => false)) = z.cps.toList.all fun c => decide (c ∈ small.cps.toList) := by
            unfold signsD
            rw [List.all_map]
            congr 1
            funext c
            show (!!decide (∃ c' ∈ [c], c' ∈ small.cps.toList)) = _
            simp
          rw [e]
          exact h
      · rw [if_neg (by omega)]
        refine ⟨hbd.str, ?_⟩
        rw [if_pos (by omega)]
        first
          | (simpa [isWordD, h2] using h)
          | exact ⟨hbd.str, by simpa [isWordD, h2] using h⟩
    · rw [if_pos (by omega)]
      have h3 : ¬ 1 ≤ z.length := h1
      first
        | (simpa [isWordD, h3] using h)
        | exact ⟨hbd.str, by simpa [isWordD, h3] using h⟩
  · exact h.elim
theorem p__law_are_values : Imp g__law_are_values (defW N__law_are_values w__law_are_values) := by
  intro ds M Q X h
  unfold g__law_are_values at h
  split at h
  · rename_i d
    obtain ⟨hbd, h⟩ := h
    have hp := hbd.pure
    replace h := dropQ.self h
    simp [↓defW, env0, ↓w__law_are_values, tyOf_pure hp, isTy_pure hp]
    cases d <;> first | (cases hp; done) | (simp [isTyD, areValuesD] at h ⊢; exact h) | skip
    rename_i xs
    simp [isTyD]
    obtain ⟨hbx, _⟩ := hbd.tup
    by_cases h1 : 1 ≤ xs.length
    · by_cases h2 : xs.length ≤ 8
      · rw [if_neg (by omega), if_neg (by omega)]
        refine wLc_filter (ds := xs) id isWordD (fun R q => by simpa using q) (by omega) (fun d hd => ⟨_, rfl, fun M' R q => by simp [wipeE]; exact ⟨hbx d hd, q⟩, fun _ M' R q => by simpa [wipeE] using q⟩) ?_
        rw [List.map_id]
        simp
        refine wLc_filter (ds := xs) id (fun d => isWhole d 0 99) (fun R q => by simpa using q) (by omega) (fun d hd => ⟨_, rfl, fun M' R q => by simp [wipeE]; exact ⟨(hbx d hd).pure, q⟩, fun _ M' R q => by simpa [wipeE] using q⟩) ?_
        rw [List.map_id]
        simp
        have e1 : (((xs.filter isWordD).length : Int) = (xs.length : Int)) ↔ xs.all isWordD = true := by rw [← filter_len (p := isWordD)]; omega
        have e2 : (((xs.filter fun d => isWhole d 0 99).length : Int) = (xs.length : Int)) ↔ (xs.all fun d => isWhole d 0 99) = true := by rw [← filter_len (p := fun d => isWhole d 0 99)]; omega
        unfold areValuesD at h
        simp only [decide_eq_true h1, decide_eq_true h2, Bool.true_and] at h
        refine iteI (fun hc => ?_) (fun hc => ?_)
        · rw [e1, e2] at hc
          have e3 : (xs.all isWordD || xs.all fun d => isWhole d 0 99) = true := by
            rw [Bool.or_eq_true]; exact hc
          rw [e3, Bool.true_and] at h
          exact ⟨homo_looks hc, by omega, h⟩
        · rw [e1, e2] at hc
          have e3 : (xs.all isWordD || xs.all fun d => isWhole d 0 99) = false := by
            rw [Bool.eq_false_iff, ne_eq, Bool.or_eq_true]; exact hc
          rw [e3, Bool.false_and] at h
          exact h
      · rw [if_neg (by omega), if_pos (by omega)]
        simpa [areValuesD, h2] using h
    · rw [if_pos (by omega)]
      have h3 : ¬ 1 ≤ xs.length := h1
      simpa [areValuesD, h3] using h
  · exact h.elim
theorem p__law_are_columns : Imp g__law_are_columns (defW N__law_are_columns w__law_are_columns) := by
  intro ds M Q X h
  unfold g__law_are_columns at h
  split at h
  · rename_i d
    obtain ⟨hbd, h⟩ := h
    have hp := hbd.pure
    replace h := dropQ.self h
    simp [↓defW, env0, ↓w__law_are_columns, tyOf_pure hp, isTy_pure hp]
    cases d <;> first | (cases hp; done) | (simp [isTyD, areColumnsD] at h ⊢; exact h) | skip
    rename_i xs
    simp [isTyD]
    obtain ⟨hbx, _⟩ := hbd.tup
    by_cases h1 : 1 ≤ xs.length
    · by_cases h2 : xs.length ≤ 3
      · rw [if_neg (by omega), if_neg (by omega)]
        intro p hpp
        have hsub : ∀ kvs, Sub M (put M p (.md kvs)) := fun kvs => Sub.refl.ext hpp
        unfold areColumnsD at h
        dsimp only at h
        rw [decide_eq_true h1, decide_eq_true h2, Bool.true_and, Bool.true_and] at h
        refine loopW_ind (fun n e mm => ∃ s2 kvs, e = [some (D.tup xs), some (.ptr p), s2] ∧ mm = put M p (.md kvs) ∧ kvs.map (·.1) = dedK ((xs.take n).map headK) ∧ ∀ d ∈ xs.take n, isColumnD d = true) ⟨_, [], rfl, rfl, rfl, fun d hd => by simp at hd⟩ (fun _ _ _ _ => trivial) ?_ ?_
        · rintro e mm ⟨s2, kvs, rfl, rfl, hk, hall⟩
          rw [List.take_length] at hk hall
          have hl := congrArg List.length hk
          rw [List.length_map] at hl
          have e1 : xs.all isColumnD = true := List.all_eq_true.mpr hall
          rw [e1, Bool.true_and, ← hl] at h
          simp
          have e2 : decide ((kvs.length : Int) = (xs.length : Int)) = decide (kvs.length = xs.length) := by rw [decide_eq_decide]; omega
          rw [e2]
          exact h.sub2 (hsub _)
        · rintro n d e mm K hd ⟨s2, kvs, rfl, rfl, hk, hall⟩ hnx hct hbk hrt hxx
          have hdm := List.mem_of_getElem? hd
          have hbdd := hbx d hdm
          have hpd := hbdd.pure
          have hfalse : isColumnD d = false → K (.rt (.bl false) (put M p (.md kvs))) := fun hf => by
            refine hrt _ _ ?_
            have e1 : xs.all isColumnD = false := by
              rw [Bool.eq_false_iff]
              intro ha
              rw [List.all_eq_true.mp ha d hdm] at hf
              cases hf
            rw [e1, Bool.false_and] at h
            exact h.sub2 (hsub _)
          cases d <;> first | (cases hpd; done) | (simp [isTyD]; exact hfalse rfl) | skip
          rename_i ys
          simp [isTyD]
          by_cases hy2 : ys.length = 2
          · obtain ⟨a, b, rfl⟩ := len2 hy2
            obtain ⟨hby, hbl⟩ := hbdd.tup
            simp at hby
            simp
            refine ⟨hby.1, ?_⟩
            cases ea : isWordD a with
            | false => simp; exact hfalse (by simp [isColumnD, ea])
            | true =>
              simp
              refine ⟨hby.2, ?_⟩
              cases eb : areValuesD b with
              | false => simp; exact hfalse (by simp [isColumnD, eb])
              | true =>
                cases a <;> first | (cases ea; done) | skip
                rename_i z
                simp
                have hkl : kvs.length ≤ n := by
                  have h3 := congrArg List.length hk
                  have h4 := dedK_le ((xs.take n).map headK)
                  simp at h3 h4
                  omega
                have hnl := (List.getElem?_eq_some_iff.mp hd).1
                refine ⟨p, kvs, ⟨rfl, rfl⟩, .inr z, rfl, by omega, ?_⟩
                rw [put_put]
                refine hnx _ _ ⟨_, _, rfl, rfl, ?_, ?_⟩
                · rw [keys_put, hk, List.take_add_one, hd, List.map_append]
                  exact (dedK_snoc _ _).symm
                · rw [List.take_add_one, hd]
                  intro d' hd'
                  rcases List.mem_append.mp hd' with h5 | h5
                  · exact hall d' h5
                  · have : d' = .tup [.str z, b] := by simpa using h5
                    rw [this]
                    simp [isColumnD, ea, eb]
          · rw [if_neg (by omega)]
            refine hfalse ?_
            unfold isColumnD
            split
            · rename_i e; cases e; simp at hy2
            · rfl
      · rw [if_neg (by omega), if_pos (by omega)]
        simpa [areColumnsD, h2] using h
    · rw [if_pos (by omega)]
      have h3 : ¬ 1 ≤ xs.length := h1
      simpa [areColumnsD, h3] using h
  · exact h.elim
theorem p__law_is_row : Imp g__law_is_row (defW N__law_is_row w__law_is_row) := by
  intro ds M Q X h
  unfold g__law_is_row at h
  split at h
  · rename_i d
    obtain ⟨cs, rfl, hC, hnd, hp, h⟩ := h
    replace h := dropQ.self h
    simp [↓defW, env0, ↓w__law_is_row, colsD, tyOf_pure hp, isTy_pure hp]
    cases d <;> first | (cases hp; done) | (simp [isTyD, isRowD] at h ⊢; exact h) | skip
    rename_i xs
    simp [isTyD, colsD]
    simp at hp
    by_cases hl : xs.length = cs.length
    · rw [if_pos (by omega)]
      unfold isRowD at h
      dsimp only at h
      rw [decide_eq_true hl, Bool.true_and] at h
      refine loopW_ind (fun n e mm => ∃ a b, e = [some (D.tup (cs.map colD)), some (D.tup xs), a, b] ∧ mm = M ∧ ∀ i (h1 : i < cs.length) (h2 : i < xs.length), i < n → isValue (valsOf cs cs[i].1) xs[i] = true) ⟨_, _, rfl, rfl, fun _ _ _ z => absurd z (by omega)⟩ (fun _ _ _ _ => trivial) ?_ ?_
      · rintro e mm ⟨a, b, rfl, rfl, hall⟩
        simp
        have e1 : (List.zipWith (fun (c : Cl) v => isValue (valsOf cs c.1) v) cs xs).all id = true := by
          rw [List.all_eq_true]
          intro b hb
          obtain ⟨n, hn, rfl⟩ := List.mem_iff_getElem.mp hb
          rw [List.length_zipWith] at hn
          rw [List.getElem_zipWith]
          exact hall n (by omega) (by omega) (by unfold pairsD; rw [List.length_zipWith, List.length_map]; omega)
        rw [e1] at h
        exact h
      · rintro n d e mm K hd ⟨a, b, rfl, rfl, hall⟩ hnx hct hbk hrt hxx
        unfold pairsD at hd
        rw [List.zipWith_map_right] at hd
        obtain ⟨hn, e⟩ := List.getElem?_eq_some_iff.mp hd
        rw [List.length_zipWith] at hn
        rw [List.getElem_zipWith] at e
        subst e
        have hx := hp xs[n] (List.getElem_mem _)
        have hev := valsOf_nd hnd (n := n) (by omega)
        have hcm : cs[n] ∈ cs := List.getElem_mem _
        have hfl := hC.flat _ hcm
        have hfalse : isValue cs[n].2 xs[n] = false → K (.rt (.bl false) mm) := fun hf => by
          refine hrt _ _ ?_
          have e1 : (List.zipWith (fun (c : Cl) v => isValue (valsOf cs c.1) v) cs xs).all id = false := by
            rw [Bool.eq_false_iff]
            intro ha
            have := List.all_eq_true.mp ha (isValue (valsOf cs cs[n].1) xs[n]) (List.mem_iff_getElem.mpr ⟨n, by rw [List.length_zipWith]; omega, by rw [List.getElem_zipWith]⟩)
            rw [hev] at this
            rw [show isValue cs[n].2 xs[n] = true from this] at hf
            cases hf
          rw [e1] at h
          exact h
        have htrue : ∀ s2 s3, isValue cs[n].2 xs[n] = true → K (.nx [some (D.tup (cs.map colD)), some (D.tup xs), s2, s3] mm) := fun s2 s3 ht => by
          refine hnx _ _ ⟨_, _, rfl, rfl, fun i h1 h2 hi => ?_⟩
          by_cases e : i = n
          · subst e; rw [hev]; exact ht
          · exact hall i h1 h2 (by omega)
        simp [colD, tyOf_pure hx, isTy_pure hx]
        generalize xs[n] = x at hx hfalse htrue ⊢
        cases x <;> first | (cases hx; done) | (simp [isTyD] at hfalse htrue ⊢; exact hfalse (by simp [isValue, isTyD])) | skip
        all_goals
          simp [isTyD]
          refine ⟨fun x hx2 => List.all_eq_true.mp hfl x hx2, ?_⟩
          refine iteI (fun hc => htrue _ _ ?_) (fun hc => hfalse ?_)
          · simp [isValue, isTyD, hc]
          · simp [isValue, isTyD, hc]
    · rw [if_neg (by omega)]
      simpa [isRowD, hl] using h
  · exact h.elim
end FL
set_option Elab.async false
set_option linter.all false
set_option maxRecDepth 100000
set_option maxHeartbeats 400000
namespace FL
open PySem PySem.Spec PyProof.Rows L2 Evl
/-! ### rowmint/books.py: what are books, tables -/
def clOf (d : D) : Cl := match d with
  | .tup [.str x, .tup vs] => (x, vs)
  | _ => ("", [])
def colsOf (d : D) : List Cl := match d with
  | .tup cs => cs.map clOf
  | _ => []
theorem dedK_nodup {ks : List Key} : (dedK ks).length = ks.length → ks.Nodup := by
  suffices h : ∀ (ks acc : List Key), (ks.foldl stepK acc).length = acc.length + ks.length → ks.Nodup ∧ ∀ k ∈ ks, k ∉ acc by
    intro e
    exact (h ks [] (by simpa [dedK] using e)).1
  intro ks
  induction ks with
  | nil => intro acc _; exact ⟨List.nodup_nil, fun k hk => nomatch hk⟩
  | cons k ks ih =>
    intro acc e
    rw [List.foldl_cons, List.length_cons] at e
    have h1 := foldK_le ks (stepK acc k)
    by_cases hk : (acc.any fun x => decide (x = k)) = true
    · have e2 : stepK acc k = acc := by unfold stepK; rw [if_pos hk]
      rw [e2] at h1 e; omega
    · have e2 : stepK acc k = acc ++ [k] := by unfold stepK; rw [if_neg hk]
      rw [e2] at e
      obtain ⟨h3, h4⟩ := ih (acc ++ [k]) (by rw [List.length_append, List.length_singleton]; omega)
      refine ⟨List.nodup_cons.mpr ⟨fun hm => h4 k hm (by simp), h3⟩, fun j hj => ?_⟩
      rcases List.mem_cons.mp hj with rfl | hj
      · intro hm
        exact hk (List.any_eq_true.mpr ⟨j, hm, decide_eq_true rfl⟩)
      · intro hm
        exact h4 j hj (by simp [hm])
theorem vals_homo {d : D} (h : areValuesD d = true) : ∃ vs, d = .tup vs ∧ Homo vs ∧ 1 ≤ vs.length ∧ vs.length ≤ 8 := by
  unfold areValuesD at h
  split at h
  · rename_i vs
    rw [Bool.and_eq_true, Bool.and_eq_true, Bool.and_eq_true, Bool.or_eq_true, decide_eq_true_eq, decide_eq_true_eq] at h
    exact ⟨vs, rfl, homo_looks h.1.2, h.1.1.1, h.1.1.2⟩
  · cases h
theorem column_cl {d : D} (h : isColumnD d = true) : d = colD (clOf d) ∧ Homo (clOf d).2 ∧ 1 ≤ (clOf d).2.length ∧ (clOf d).2.length ≤ 8 ∧ headK d = .inr (clOf d).1 := by
  unfold isColumnD at h
  split at h
  · rename_i a b
    rw [Bool.and_eq_true] at h
    obtain ⟨vs, rfl, h2⟩ := vals_homo h.2
    cases a <;> first | (cases h.1; done) | skip
    exact ⟨rfl, h2.1, h2.2.1, h2.2.2, rfl⟩
  · cases h
theorem Homo.flat2 {vs : List D} (h : Homo vs) : vs.all flatD = true := by
  rw [List.all_eq_true]
  intro d hd
  rcases h with h | h <;> (obtain ⟨i, rfl⟩ := h d hd; rfl)
/-- what the look at columns lets by -/
structure Colsd (cs : List Cl) : Prop where
  cols : Cols cs
  nd : (cs.map (·.1)).Nodup
  some : 1 ≤ cs.length
  most : cs.length ≤ 3
  vals : ∀ c ∈ cs, c.2.length ≤ 8
theorem cols_of {d : D} (h : areColumnsD d = true) : d = colsD (colsOf d) ∧ Colsd (colsOf d) := by
  unfold areColumnsD at h
  split at h
  · rename_i xs
    rw [Bool.and_eq_true, Bool.and_eq_true, Bool.and_eq_true, decide_eq_true_eq, decide_eq_true_eq, decide_eq_true_eq, List.all_eq_true] at h
    obtain ⟨⟨⟨h1, h2⟩, h3⟩, h4⟩ := h
    have e1 : xs = (xs.map clOf).map colD := by
      rw [List.map_map]
      conv => lhs; rw [← List.map_id xs]
      exact List.map_congr_left fun d hd => (column_cl (h3 d hd)).1
    have hk : xs.map headK = ((xs.map clOf).map (·.1)).map Sum.inr := by
      rw [List.map_map, List.map_map]
      exact List.map_congr_left fun d hd => (column_cl (h3 d hd)).2.2.2.2
    refine ⟨by unfold colsD colsOf; dsimp only; rw [← e1], ⟨fun c hc => ?_, ?_, fun c hc => ?_, fun c hc => ?_⟩, ?_, ?_, ?_, fun c hc => ?_⟩
    · obtain ⟨d, hd, rfl⟩ := List.mem_map.mp hc; exact (column_cl (h3 d hd)).2.1.flat2
    · show (xs.map clOf).length ≤ _; rw [List.length_map]; omega
    · obtain ⟨d, hd, rfl⟩ := List.mem_map.mp hc; exact (column_cl (h3 d hd)).2.1
    · obtain ⟨d, hd, rfl⟩ := List.mem_map.mp hc; have := (column_cl (h3 d hd)).2.2; omega
    · have h5 : (xs.map headK).Nodup := dedK_nodup (by rw [h4, List.length_map])
      rw [hk] at h5
      exact (List.pairwise_map.mp h5).imp fun h e => h (by rw [e])
    · show 1 ≤ (xs.map clOf).length; rw [List.length_map]; omega
    · show (xs.map clOf).length ≤ 3; rw [List.length_map]; omega
    · obtain ⟨d, hd, rfl⟩ := List.mem_map.mp hc; exact (column_cl (h3 d hd)).2.2.2.1
  · cases h
def isNamedD (cs : List Cl) (many : Int) (d : D) : Bool := match d with
  | .tup [a, r] => isWordD a && isRule cs many r
  | _ => false
def areNamedD (cs : List Cl) (many : Int) (d : D) : Bool := match d with
  | .tup xs => decide (xs.length ≤ 12) && xs.all (isNamedD cs many) && rise (xs.map headD)
  | _ => false
def isBookD (d : D) : Bool := match d with
  | .tup [c, .int many, r] => areColumnsD c && isWhole (.int many) 0 8 && areNamedD (colsOf c) many r
  | _ => false
def isTableD (b t : D) : Bool := match b, t with
  | .tup [c, .int many, _], .tup rows => decide ((rows.length : Int) = many) && rows.all (isRowD (colsOf c))
  | _, _ => false
@[simp ↓] def g_are_named : Fn := fun ds M Q _ => match ds with
  | [c, .int many, d] => ∃ cs, c = colsD cs ∧ Cols cs ∧ Bd d ∧ Q (.bl (areNamedD cs many d)) M
  | _ => False
@[simp ↓] def g_is_book : Fn := fun ds M Q _ => match ds with
  | [d] => Bd d ∧ Q (.bl (isBookD d)) M
  | _ => False
@[simp ↓] def g_need_book : Fn := fun ds M Q X => match ds with
  | [d] => Bd d ∧ if isBookD d = true then Q .non M else X "NoBook" M
  | _ => False
@[simp ↓] def g_is_table : Fn := fun ds M Q X => match ds with
  | [b, t] => Bd b ∧ Bd t ∧ if isBookD b = true then Q (.bl (isTableD b t)) M else X "NoBook" M
  | _ => False
@[simp ↓] def g_need_table : Fn := fun ds M Q X => match ds with
  | [b, t] => Bd b ∧ Bd t ∧ if isBookD b = true then (if isTableD b t = true then Q .non M else X "NoTable" M) else X "NoBook" M
  | _ => False
@[simp ↓] def g__law_is_book : Fn := fun ds M Q _ => match ds with
  | [d] => Bd d ∧ Q (.bl (isBookD d)) M
  | _ => False
@[simp ↓] def g__law_is_table : Fn := fun ds M Q _ => match ds with
  | [b, t] => Bd b ∧ Bd t ∧ isBookD b = true ∧ Q (.bl (isTableD b t)) M
  | _ => False
@[simp ↓] def g__law_only : Fn := fun ds M Q _ => match ds with
  | [.int w] => Q (.lst ((List.range 14).map fun (k : Nat) => D.bl (decide (((k : Nat) : Int) = w)))) M
  | _ => False
def k__law_kinds (c : Str) : D := .lst [.bl (subX c "NoBook"), .bl (subX c "NoColumn"), .bl (subX c "NoRule"), .bl (subX c "NoNumber"), .bl (subX c "NoTable"), .bl (subX c "TooMany"), .bl (subX c "Unlike"), .bl (subX c "NoCase"), .bl (subX c "NoLink"), .bl (subX c "NoHeld"), .bl (subX c "NothingLeft"), .bl (subX c "NoText"), .bl (subX c "NoRow"), .bl false]
/- are_named: 0 columns 1 many 2 thing 3 one -/
abbrev N_are_named : List Str := ["columns", "many", "thing", "one"]
def w_are_named_6 : SS := (sSeq (sRet (wCall 1 g_rise (aCons (wLc false (wIt (wSlot 2)) (asT1 3) [3] tTrue (w2 sSub1 (wSlot 3) (wC (.int 0)))) aNil)))
sNil)
def w_are_named_4 : SS := (sSeq (sIf (tOr (tNot (wTest (wIs1 .tuple (wSlot 3)))) (tOr (wTest (w2 (sEq true) (wF sLen (aCons (wSlot 3) aNil)) (wC (.int 2)))) (tOr (tNot (wTest (wCall 1 g_is_word (aCons (w2 sSub1 (wSlot 3) (wC (.int 0))) aNil)))) (tNot (wTest (wCall 3 g_is_rule (aCons (wSlot 0) (aCons (wSlot 1) (aCons (w2 sSub1 (wSlot 3) (wC (.int 1))) aNil)))))))))
 (sSeq (sRet (wC (.bl false)))
sNil)
 sNil)
sNil)
def w_are_named_3 : SS := (sSeq (lockIt 2 (sFor (wIt (wSlot 2)) (gSlot 3)
 w_are_named_4))
w_are_named_6)
def w_are_named : SS := (sSeq (sIf (tOr (tNot (wTest (wIs1 .tuple (wSlot 2)))) (wTest (w2 sGt (wF sLen (aCons (wSlot 2) aNil)) (wC (.int 12)))))
 (sSeq (sRet (wC (.bl false)))
sNil)
 sNil)
w_are_named_3)
/- is_book: 0 thing -/
abbrev N_is_book : List Str := ["thing"]
def w_is_book : SS := (sSeq (sIf (tOr (tNot (wTest (wIs1 .tuple (wSlot 0)))) (tOr (wTest (w2 (sEq true) (wF sLen (aCons (wSlot 0) aNil)) (wC (.int 3)))) (tNot (wTest (wCall 1 g_are_columns (aCons (w2 sSub1 (wSlot 0) (wC (.int 0))) aNil))))))
 (sSeq (sRet (wC (.bl false)))
sNil)
 sNil)
(sSeq (sRet (wAnd (wCall 3 g_is_whole (aCons (w2 sSub1 (wSlot 0) (wC (.int 1))) (aCons (wC (.int 0)) (aCons (wC (.int 8)) aNil)))) (wCall 3 g_are_named (aCons (w2 sSub1 (wSlot 0) (wC (.int 0))) (aCons (w2 sSub1 (wSlot 0) (wC (.int 1))) (aCons (w2 sSub1 (wSlot 0) (wC (.int 2))) aNil))))))
sNil))
/- need_book: 0 thing -/
abbrev N_need_book : List Str := ["thing"]
def w_need_book : SS := (sSeq (sIf (tNot (wTest (wCall 1 g_is_book (aCons (wSlot 0) aNil))))
 (sSeq (sRaise "NoBook")
sNil)
 sNil)
sNil)
/- is_table: 0 book 1 thing 2 row -/
abbrev N_is_table : List Str := ["book", "thing", "row"]
def w_is_table : SS := (sSeq (sExpr (wCall 1 g_need_book (aCons (wSlot 0) aNil)))
(sSeq (sRet (wAnd (wIs1 .tuple (wSlot 1)) (wAnd (w2 (sEq false) (wF sLen (aCons (wSlot 1) aNil)) (w2 sSub1 (wSlot 0) (wC (.int 1)))) (wF sAll (aCons (wLc false (wIt (wSlot 1)) (asT1 2) [2] tTrue (wCall 2 g_is_row (aCons (w2 sSub1 (wSlot 0) (wC (.int 0))) (aCons (wSlot 2) aNil)))) aNil)))))
sNil))
/- need_table: 0 book 1 thing -/
abbrev N_need_table : List Str := ["book", "thing"]
def w_need_table : SS := (sSeq (sIf (tNot (wTest (wCall 2 g_is_table (aCons (wSlot 0) (aCons (wSlot 1) aNil)))))
 (sSeq (sRaise "NoTable")
sNil)
 sNil)
sNil)
/- _law_is_book: 0 _law_thing_here 1 _law_one -/
abbrev N__law_is_book : List Str := ["_law_thing_here", "_law_one"]
def w__law_is_book_10 : SS := (sSeq (sRet (wCall 1 g__law_rising (aCons (wLc false (wIt (w2 sSub1 (wSlot 0) (wC (.int 2)))) (asT1 1) [1] tTrue (w2 sSub1 (wSlot 1) (wC (.int 0)))) aNil)))
sNil)
def w__law_is_book_8 : SS := (sSeq (sIf (tNot (wTest (wCall 3 g__law_is_rule (aCons (w2 sSub1 (wSlot 0) (wC (.int 0))) (aCons (w2 sSub1 (wSlot 0) (wC (.int 1))) (aCons (w2 sSub1 (wSlot 1) (wC (.int 1))) aNil))))))
 (sSeq (sRet (wC (.bl false)))
sNil)
 sNil)
sNil)
def w__law_is_book_6 : SS := (sSeq (sIf (tOr (tNot (wTest (wIs1 .tuple (wSlot 1)))) (tOr (wTest (w2 (sEq true) (wF sLen (aCons (wSlot 1) aNil)) (wC (.int 2)))) (tNot (wTest (wCall 1 g__law_is_word (aCons (w2 sSub1 (wSlot 1) (wC (.int 0))) aNil))))))
 (sSeq (sRet (wC (.bl false)))
sNil)
 sNil)
w__law_is_book_8)
def w__law_is_book_5 : SS := (sSeq (sFor (wIt (w2 sSub1 (wSlot 0) (wC (.int 2)))) (gSlot 1)
 w__law_is_book_6)
w__law_is_book_10)
def w__law_is_book_3 : SS := (sSeq (sIf (tOr (tNot (wTest (wCall 3 g__law_is_number (aCons (w2 sSub1 (wSlot 0) (wC (.int 1))) (aCons (wC (.int 0)) (aCons (wC (.int 8)) aNil)))))) (tOr (tNot (wTest (wIs1 .tuple (w2 sSub1 (wSlot 0) (wC (.int 2)))))) (wTest (w2 sGt (wF sLen (aCons (w2 sSub1 (wSlot 0) (wC (.int 2))) aNil)) (wC (.int 12))))))
 (sSeq (sRet (wC (.bl false)))
sNil)
 sNil)
w__law_is_book_5)
def w__law_is_book : SS := (sSeq (sIf (tOr (tNot (wTest (wIs1 .tuple (wSlot 0)))) (tOr (wTest (w2 (sEq true) (wF sLen (aCons (wSlot 0) aNil)) (wC (.int 3)))) (tNot (wTest (wCall 1 g__law_are_columns (aCons (w2 sSub1 (wSlot 0) (wC (.int 0))) aNil))))))
 (sSeq (sRet (wC (.bl false)))
sNil)
 sNil)
w__law_is_book_3)
/- _law_is_table: 0 _law_book_here 1 _law_thing_here 2 _law_row -/
abbrev N__law_is_table : List Str := ["_law_book_here", "_law_thing_here", "_law_row"]
def w__law_is_table : SS := (sSeq (sIf (tOr (tNot (wTest (wIs1 .tuple (wSlot 1)))) (wTest (w2 (sEq true) (wF sLen (aCons (wSlot 1) aNil)) (w2 sSub1 (wSlot 0) (wC (.int 1))))))
 (sSeq (sRet (wC (.bl false)))
sNil)
 sNil)
(sSeq (sRet (w2 (sEq false) (wLc false (wIt (wSlot 1)) (asT1 2) [2] (tNot (wTest (wCall 2 g__law_is_row (aCons (w2 sSub1 (wSlot 0) (wC (.int 0))) (aCons (wSlot 2) aNil))))) (wSlot 2)) (wF (sLst false) aNil)))
sNil))
/- _law_only: 0 _law_which 1 _law_k -/
abbrev N__law_only : List Str := ["_law_which", "_law_k"]
def w__law_only : SS := (sSeq (sRet (wLc false (wRange1 (aCons (wC (.int 14)) aNil)) (asT1 1) [1] tTrue (w2 (sEq false) (wSlot 1) (wSlot 0))))
sNil)
/- _law_kinds: 0 _law_e 1 _law_kinds_here -/
abbrev N__law_kinds : List Str := ["_law_e", "_law_kinds_here"]
def w__law_kinds (xa : Addr) (xc : Str) : SS := (sSeq (sAsg (gSlot 1) (wF (sLst false) (aCons (wIsX xa (subX xc "NoBook") (wSlot 0)) (aCons (wIsX xa (subX xc "NoColumn") (wSlot 0)) (aCons (wIsX xa (subX xc "NoRule") (wSlot 0)) (aCons (wIsX xa (subX xc "NoNumber") (wSlot 0)) aNil))))))
(sSeq (sAsg (gSlot 1) (w2 (sAdd false) (wSlot 1) (wF (sLst false) (aCons (wIsX xa (subX xc "NoTable") (wSlot 0)) (aCons (wIsX xa (subX xc "TooMany") (wSlot 0)) (aCons (wIsX xa (subX xc "Unlike") (wSlot 0)) (aCons (wIsX xa (subX xc "NoCase") (wSlot 0)) aNil)))))))
(sSeq (sAsg (gSlot 1) (w2 (sAdd false) (wSlot 1) (wF (sLst false) (aCons (wIsX xa (subX xc "NoLink") (wSlot 0)) (aCons (wIsX xa (subX xc "NoHeld") (wSlot 0)) (aCons (wIsX xa (subX xc "NothingLeft") (wSlot 0)) aNil))))))
(sSeq (sRet (w2 (sAdd false) (wSlot 1) (wF (sLst false) (aCons (wIsX xa (subX xc "NoText") (wSlot 0)) (aCons (wIsX xa (subX xc "NoRow") (wSlot 0)) (aCons (wNot (wIsX xa true (wSlot 0))) aNil))))))
sNil))))
theorem named_tup {cs : List Cl} {many : Int} {d : D} (h : isNamedD cs many d = true) : ∃ z r, d = .tup [.str z, r] := by
  unfold isNamedD at h
  split at h
  · rename_i a r
    have ha := (Bool.and_eq_true_iff.mp h).1
    cases a <;> first | (cases ha; done) | exact ⟨_, _, rfl⟩
  · cases h
theorem named_homo {cs : List Cl} {many : Int} {xs : List D} (h : ∀ d ∈ xs, isNamedD cs many d = true) : Homo (xs.map headD) := .inr fun d hd => by
  obtain ⟨e, he, rfl⟩ := List.mem_map.mp hd
  obtain ⟨z, r, rfl⟩ := named_tup (h e he)
  exact ⟨z, rfl⟩
theorem p__law_kinds : ∀ a c M, defW N__law_kinds (w__law_kinds a c) [.ptr a] M (fun d M' => d = k__law_kinds c ∧ M' = M) fun _ _ => False := by
  intro a c M
  simp [↓defW, env0, ↓w__law_kinds, k__law_kinds]
theorem p__law_only : Imp g__law_only (defW N__law_only w__law_only) := by
  intro ds M Q X h
  unfold g__law_only at h
  split at h
  · rename_i w
    replace h := dropQ.self h
    simp [↓defW, env0, ↓w__law_only]
    refine wLc_rng (lo := 0) (n := 14) (fun i => .bl (decide ((i : Int) = w))) ?_ (by decide) ?_ h
    · intro R hR; simpa using hR
    · intro i hi
      refine ⟨_, rfl, fun M' R q => ?_⟩
      simpa [wipeE] using q
  · exact h.elim
theorem p_need_book : Imp g_need_book (defW N_need_book w_need_book) := by
  intro ds M Q X h
  unfold g_need_book at h
  split at h
  · rename_i d
    obtain ⟨hb, h⟩ := h
    simp [↓defW, env0, ↓w_need_book]
    refine ⟨hb, ?_⟩
    cases e : isBookD d <;> simp [e] at h ⊢
    · exact dropQ.self h
    · exact dropQ.self h
  · exact h.elim
theorem p_need_table : Imp g_need_table (defW N_need_table w_need_table) := by
  intro ds M Q X h
  unfold g_need_table at h
  split at h
  · rename_i b t
    obtain ⟨hb, ht, h⟩ := h
    simp [↓defW, env0, ↓w_need_table]
    refine ⟨hb, ht, ?_⟩
    cases e : isBookD b <;> simp [e] at h ⊢
    · exact dropQ.self h
    · cases e2 : isTableD b t <;> simp [e2] at h ⊢
      · exact dropQ.self h
      · exact dropQ.self h
  · exact h.elim
theorem p_is_table : Imp g_is_table (defW N_is_table w_is_table) := by
  intro ds M Q X h
  unfold g_is_table at h
  split at h
  · rename_i b t
    obtain ⟨hb, ht, h⟩ := h
    simp [↓defW, env0, ↓w_is_table]
    refine ⟨hb, ?_⟩
    cases e : isBookD b with
    | false =>
      rw [e] at h
      simp at h ⊢
      exact dropQ.self h
    | true =>
      rw [e] at h
      simp at h
      replace h := dropQ.self h
      simp
      have hp := ht.pure
      unfold isBookD at e
      split at e
      · rename_i c many r
        rw [Bool.and_eq_true, Bool.and_eq_true] at e
        obtain ⟨ec, hC⟩ := cols_of e.1.1
        simp [tyOf_pure hp, isTy_pure hp]
        cases t <;> first | (cases hp; done) | (simp [isTyD, isTableD] at h ⊢; exact h) | skip
        rename_i xs
        simp [isTyD]
        obtain ⟨hbx, hbl⟩ := ht.tup
        unfold isTableD at h
        dsimp only at h
        by_cases hl : (xs.length : Int) = many
        · rw [if_pos hl]
          rw [decide_eq_true hl, Bool.true_and] at h
          refine wLc_map (fun d => .bl (isRowD (colsOf c) d)) (ds := xs) (fun R q => by simpa using q) hbl (fun d hd => ⟨_, rfl, fun M' R q => by simp [wipeE]; exact ⟨colsOf c, ec, hC.cols, (hbx d hd).pure, q⟩⟩) ?_
          rw [sAll_bls]
          exact h
        · rw [if_neg hl]
          rw [decide_eq_false hl, Bool.false_and] at h
          exact h
      · cases e
  · exact h.elim
theorem p_is_book : Imp g_is_book (defW N_is_book w_is_book) := by
  intro ds M Q X h
  unfold g_is_book at h
  split at h
  · rename_i d
    obtain ⟨hbd, h⟩ := h
    have hp := hbd.pure
    replace h := dropQ.self h
    simp [↓defW, env0, ↓w_is_book, tyOf_pure hp, isTy_pure hp]
    cases d <;> first | (cases hp; done) | (simp [isTyD, isBookD] at h ⊢; exact h) | skip
    rename_i xs
    simp [isTyD]
    by_cases hl : xs.length = 3
    · obtain ⟨c, m, r, rfl⟩ := len3 hl
      obtain ⟨hbx, hbl⟩ := hbd.tup
      simp at hbx
      obtain ⟨hbc, hbm, hbr⟩ := hbx
      have hpm := hbm.pure
      simp
      refine ⟨hbc, ?_⟩
      cases e1 : areColumnsD c with
      | false =>
        have e2 : isBookD (.tup [c, m, r]) = false := by cases m <;> simp [isBookD, e1]
        rw [e2] at h
        simpa using h
      | true =>
        obtain ⟨ec, hC⟩ := cols_of e1
        simp
        refine ⟨hpm, ?_⟩
        cases m <;> first | (simp [isWhole, isBookD] at h ⊢; exact h) | skip
        rename_i many
        simp
        cases e2 : isWhole (.int many) 0 8 with
        | false => simpa [isBookD, e2] using h
        | true =>
          simp
          refine ⟨colsOf c, ec, hC.cols, hbr, ?_⟩
          simpa [isBookD, e1, e2] using h
    · have e2 : isBookD (.tup xs) = false := by
        unfold isBookD
        split
        · rename_i e; cases e; simp at hl
        · rfl
      rw [e2] at h
      rw [if_neg (by omega)]
      exact h
  · exact h.elim
theorem p_are_named : Imp g_are_named (defW N_are_named w_are_named) := by
  intro ds M Q X h
  unfold g_are_named at h
  split at h
  · rename_i many d
    obtain ⟨cs, rfl, hC, hbd, h⟩ := h
    have hp := hbd.pure
    replace h := dropQ.self h
    simp [↓defW, env0, ↓w_are_named, tyOf_pure hp, isTy_pure hp]
    cases d <;> first | (cases hp; done) | (simp [isTyD, areNamedD] at h ⊢; exact h) | skip
    rename_i xs
    simp [isTyD]
    obtain ⟨hbx, hbl⟩ := hbd.tup
    unfold areNamedD at h
    dsimp only at h
    by_cases hl : xs.length ≤ 12
    · rw [if_neg (by omega)]
      rw [decide_eq_true hl, Bool.true_and] at h
      simp [↓w_are_named_3]
      refine loopW_ind (fun n e mm => ∃ s3, e = [some (colsD cs), some (.int many), some (.tup xs), s3] ∧ mm = M ∧ ∀ d ∈ xs.take n, isNamedD cs many d = true) ⟨_, rfl, rfl, fun d hd => by simp at hd⟩ (fun _ _ _ _ => trivial) ?_ ?_
      · rintro e mm ⟨s3, rfl, rfl, hall⟩
        rw [List.take_length] at hall
        rw [List.all_eq_true.mpr hall, Bool.true_and] at h
        simp [↓w_are_named_6]
        refine wLc_map headD (ds := xs) (fun R q => by simpa using q) hbl (fun d hd => ⟨_, rfl, fun M' R q => ?_⟩) ?_
        · obtain ⟨z, r, rfl⟩ := named_tup (hall d hd)
          simpa [wipeE, headD] using q
        · exact ⟨_, .inr rfl, named_homo hall, by rw [List.length_map]; exact hbl, h⟩
      · rintro n d e mm K hd ⟨s3, rfl, rfl, hall⟩ hnx hct hbk hrt hxx
        have hdm := List.mem_of_getElem? hd
        have hbdd := hbx d hdm
        have hpd := hbdd.pure
        have hfalse : isNamedD cs many d = false → K (.rt (.bl false) mm) := fun hf => by
          refine hrt _ _ ?_
          have e1 : xs.all (isNamedD cs many) = false := by
            rw [Bool.eq_false_iff]
            intro ha
            rw [List.all_eq_true.mp ha d hdm] at hf
            cases hf
          rw [e1, Bool.false_and] at h
          exact h
        simp [↓w_are_named_4, tyOf_pure hpd, isTy_pure hpd]
        cases d <;> first | (cases hpd; done) | (simp [isTyD]; exact hfalse rfl) | skip
        rename_i ys
        simp [isTyD]
        by_cases hy2 : ys.length = 2
        · obtain ⟨a, b, rfl⟩ := len2 hy2
          obtain ⟨hby, hyl⟩ := hbdd.tup
          simp at hby
          simp
          refine ⟨hby.1, ?_⟩
          cases ea : isWordD a with
          | false => simp; exact hfalse (by simp [isNamedD, ea])
          | true =>
            simp
            have hfew : ∀ zs, b = .tup zs → ∀ e ∈ zs, few e := fun zs e f hf => by
              subst e
              exact (hby.2.tup.1 f hf).few
            refine ⟨hC, hby.2.pure, hfew, ?_⟩
            cases eb : isRule cs many b with
            | false => simp; exact hfalse (by simp [isNamedD, eb])
            | true =>
              simp
              refine hnx _ _ ⟨_, rfl, rfl, ?_⟩
              rw [List.take_add_one, hd]
              intro d' hd'
              rcases List.mem_append.mp hd' with h5 | h5
              · exact hall d' h5
              · have : d' = .tup [a, b] := by simpa using h5
                rw [this]
                simp [isNamedD, ea, eb]
        · rw [if_neg (by omega)]
          refine hfalse ?_
          unfold isNamedD
          split
          · rename_i e; cases e; simp at hy2
          · rfl
    · rw [if_pos (by omega)]
      rw [decide_eq_false hl, Bool.false_and] at h
      exact h
  · exact h.elim
theorem p__law_is_book : Imp g__law_is_book (defW N__law_is_book w__law_is_book) := by
  intro ds M Q X h
  unfold g__law_is_book at h
  split at h
  · rename_i d
    obtain ⟨hbd, h⟩ := h
    have hp := hbd.pure
    replace h := dropQ.self h
    simp [↓defW, env0, ↓w__law_is_book, tyOf_pure hp, isTy_pure hp]
    cases d <;> first | (cases hp; done) | (simp [isTyD, isBookD] at h ⊢; exact h) | skip
    rename_i xs
    simp [isTyD]
    by_cases hl : xs.length = 3
    · obtain ⟨c, m, r, rfl⟩ := len3 hl
      obtain ⟨hbx, hbl⟩ := hbd.tup
      simp at hbx
      obtain ⟨hbc, hbm, hbr⟩ := hbx
      have hpm := hbm.pure
      have hpr := hbr.pure
      simp
      refine ⟨hbc, ?_⟩
      cases e1 : areColumnsD c with
      | false =>
        have e2 : isBookD (.tup [c, m, r]) = false := by cases m <;> simp [isBookD, e1]
        rw [e2] at h
        simpa using h
      | true =>
        obtain ⟨ec, hC⟩ := cols_of e1
        simp [↓w__law_is_book_3]
        refine ⟨hpm, ?_⟩
        cases m <;> first | (simp [isWhole, isBookD] at h ⊢; exact h) | skip
        rename_i many
        cases e2 : isWhole (.int many) 0 8 with
        | false => simpa [isBookD, e2] using h
        | true =>
          simp [isBookD, e1, e2] at h
          simp [tyOf_pure hpr, isTy_pure hpr]
          cases r <;> first | (cases hpr; done) | (simp [isTyD, areNamedD] at h ⊢; exact h) | skip
          rename_i xs
          simp [isTyD]
          obtain ⟨hbx, hbl⟩ := hbr.tup
          generalize hcs : colsOf c = cs at h hC ec
          have hCc := hC.cols
          unfold areNamedD at h
          dsimp only at h
          by_cases hl : xs.length ≤ 12
          · rw [if_neg (by omega)]
            rw [decide_eq_true hl, Bool.true_and] at h
            simp [↓w__law_is_book_5]
            refine loopW_ind (fun n e mm => ∃ s3, e = [some (.tup [c, .int many, .tup xs]), s3] ∧ mm = M ∧ ∀ d ∈ xs.take n, isNamedD cs many d = true) ⟨_, rfl, rfl, fun d hd => by simp at hd⟩ (fun _ _ _ _ => trivial) ?_ ?_
            · rintro e mm ⟨s3, rfl, rfl, hall⟩
              rw [List.take_length] at hall
              rw [List.all_eq_true.mpr hall, Bool.true_and] at h
              simp [↓w__law_is_book_10]
              refine wLc_map headD (ds := xs) (fun R q => by simpa using q) hbl (fun d hd => ⟨_, rfl, fun M' R q => ?_⟩) ?_
              · obtain ⟨z, r, rfl⟩ := named_tup (hall d hd)
                simpa [wipeE, headD] using q
              · exact ⟨_, .inr rfl, named_homo hall, by rw [List.length_map]; exact hbl, h⟩
            · rintro n d e mm K hd ⟨s3, rfl, rfl, hall⟩ hnx hct hbk hrt hxx
              have hdm := List.mem_of_getElem? hd
              have hbdd := hbx d hdm
              have hpd := hbdd.pure
              have hfalse : isNamedD cs many d = false → K (.rt (.bl false) mm) := fun hf => by
                refine hrt _ _ ?_
                have e1 : xs.all (isNamedD cs many) = false := by
                  rw [Bool.eq_false_iff]
                  intro ha
                  rw [List.all_eq_true.mp ha d hdm] at hf
                  cases hf
                rw [e1, Bool.false_and] at h
                exact h
              simp [↓w__law_is_book_6, tyOf_pure hpd, isTy_pure hpd]
              cases d <;> first | (cases hpd; done) | (simp [isTyD]; exact hfalse rfl) | skip
              rename_i ys
              simp [isTyD]
              by_cases hy2 : ys.length = 2
              · obtain ⟨a, b, rfl⟩ := len2 hy2
                obtain ⟨hby, hyl⟩ := hbdd.tup
                simp at hby
                simp
                refine ⟨hby.1, ?_⟩
                cases ea : isWordD a with
                | false => simp; exact hfalse (by simp [isNamedD, ea])
                | true =>
                  simp [↓w__law_is_book_8]
                  have hfew : ∀ zs, b = .tup zs → ∀ e ∈ zs, few e := fun zs e f hf => by
                    subst e
                    exact (hby.2.tup.1 f hf).few
                  refine ⟨cs, ec, hCc, hby.2.pure, hfew, ?_⟩
                  cases eb : isRule cs many b with
                  | false => simp; exact hfalse (by simp [isNamedD, eb])
                  | true =>
                    simp
                    refine hnx _ _ ⟨_, rfl, rfl, ?_⟩
                    rw [List.take_add_one, hd]
                    intro d' hd'
                    rcases List.mem_append.mp hd' with h5 | h5
                    · exact hall d' h5
                    · have : d' = .tup [a, b] := by simpa using h5
                      rw [this]
                      simp [isNamedD, ea, eb]
              · rw [if_neg (by omega)]
                refine hfalse ?_
                unfold isNamedD
                split
                · rename_i e; cases e; simp at hy2
                · rfl
          · rw [if_pos (by omega)]
            rw [decide_eq_false hl, Bool.false_and] at h
            exact h
    · have e2 : isBookD (.tup xs) = false := by
        unfold isBookD
        split
        · rename_i e; cases e; simp at hl
        · rfl
      rw [e2] at h
      rw [if_neg (by omega)]
      exact h
  · exact h.elim
theorem p__law_is_table : Imp g__law_is_table (defW N__law_is_table w__law_is_table) := by
  intro ds M Q X h
  unfold g__law_is_table at h
  split at h
  · rename_i b t
    obtain ⟨hb, ht, hbk, h⟩ := h
    have hp := ht.pure
    replace h := dropQ.self h
    simp [↓defW, env0, ↓w__law_is_table, tyOf_pure hp, isTy_pure hp]
    unfold isBookD at hbk
    split at hbk
    · rename_i c many r
      rw [Bool.and_eq_true, Bool.and_eq_true] at hbk
      obtain ⟨ec, hC⟩ := cols_of hbk.1.1
      cases t <;> first | (cases hp; done) | (simp [isTyD, isTableD] at h ⊢; exact h) | skip
      rename_i xs
      simp [isTyD]
      obtain ⟨hbx, hbl⟩ := ht.tup
      unfold isTableD at h
      dsimp only at h
      by_cases hl : (xs.length : Int) = many
      · rw [if_pos hl]
        rw [decide_eq_true hl, Bool.true_and] at h
        refine wLc_filter (ds := xs) id (fun d => !isRowD (colsOf c) d) (fun R q => by simpa using q) hbl (fun d hd => ⟨_, rfl, fun M' R q => by simp [wipeE]; exact ⟨colsOf c, ec, hC.cols, hC.nd, (hbx d hd).pure, q⟩, fun _ M' R q => by simpa [wipeE] using q⟩) ?_
        rw [List.map_id, deref_lst, eqD_lst, eqDs_nilR, isEmpty_filter]
        simp only [Bool.not_not]
        exact ⟨by rw [pure_lst, List.all_eq_true]; exact fun d hd => (hbx d (List.mem_filter.mp hd).1).pure, by omega, h⟩
      · rw [if_neg hl]
        rw [decide_eq_false hl, Bool.false_and] at h
        exact h
    · cases hbk
  · exact h.elim
end FL
set_option Elab.async false
set_option linter.all false
set_option maxRecDepth 100000
set_option maxHeartbeats 400000
namespace FL
open PySem PySem.Spec PyProof.Rows L2 Evl
/-! ### books, rows, tables as plain data -/
abbrev Col := Str × List Key
abbrev Row := List Key
instance (priority := 10000) instBEqKey : BEq Key := instBEqOfDecidableEq
def ltK : Key → Key → Bool
  | .inl i, .inl j => decide (i < j)
  | .inr x, .inr y => ltS x y
  | _, _ => false
theorem ltD_kD (a b : Key) : ltD (kD a) (kD b) = ltK a b := by cases a <;> cases b <;> rfl
@[simp] theorem keyOf_kD (k : Key) : keyOf (kD k) = some k := by cases k <;> rfl
@[simp] theorem pure_kD (k : Key) : FL.pure (kD k) = true := by cases k <;> rfl
@[simp] theorem dep_kD (k : Key) : dep (kD k) = 0 := by cases k <;> rfl
@[simp] theorem flatD_kD (k : Key) : flatD (kD k) = true := by cases k <;> rfl
@[simp] theorem deref_kD {M : Mem} (k : Key) : deref M (kD k) = kD k := by cases k <;> rfl
@[simp] theorem eqD_kD (a b : Key) : eqD (kD a) (kD b) = decide (a = b) := by
  cases a <;> cases b
  · simp [kD]
  · simp [kD, eqD]
  · simp [kD, eqD]
  · simp [kD]
theorem kD_inj {a b : Key} (h : kD a = kD b) : a = b := by
  cases a <;> cases b <;> cases h <;> rfl
@[simp] theorem inD_kD (k : Key) (l : List Key) : inD (kD k) (l.map kD) = decide (k ∈ l) := by
  unfold inD
  rw [List.any_map, Bool.eq_iff_iff, List.any_eq_true, decide_eq_true_eq]
  constructor
  · rintro ⟨x, hx, e⟩
    have : decide (x = k) = true := by rw [← eqD_kD]; exact e
    rw [← of_decide_eq_true this]; exact hx
  · intro h
    exact ⟨k, h, by show eqD (kD k) (kD k) = true; rw [eqD_kD]; exact decide_eq_true rfl⟩
def isNum : Key → Bool
  | .inl _ => true
  | .inr _ => false
@[simp] theorem isInt_kD (k : Key) : isTyD .int (kD k) = isNum k := by cases k <;> rfl
@[simp] theorem isStr_kD (k : Key) : isTyD .str (kD k) = !isNum k := by cases k <;> rfl
@[simp] theorem isBool_kD (k : Key) : isTyD .bool (kD k) = false := by cases k <;> rfl
@[simp] theorem keys_kD (l : List Key) : (l.map kD).map keyOf = l.map some := by
  rw [List.map_map]; exact List.map_congr_left fun k _ => keyOf_kD k
theorem ltS_irr (x : Str) : ltS x x = false := decide_eq_false (List.lt_irrefl _)
theorem ltS_tr {x y z : Str} (h : ltS x y = true) (g : ltS y z = true) : ltS x z = true := decide_eq_true (List.lt_trans (of_decide_eq_true h) (of_decide_eq_true g))
theorem ltK_irr (k : Key) : ltK k k = false := by
  cases k with
  | inl i => exact decide_eq_false (by omega)
  | inr x => exact ltS_irr x
theorem ltK_tr {a b c : Key} (h : ltK a b = true) (g : ltK b c = true) : ltK a c = true := by
  cases a <;> cases b <;> cases c <;> first
    | (cases h; done)
    | (cases g; done)
    | (have h1 := of_decide_eq_true h; have h2 := of_decide_eq_true g; exact decide_eq_true (by omega))
    | exact ltS_tr h g
theorem ltK_kind {a b : Key} (h : ltK a b = true) : isNum a = isNum b := by
  cases a <;> cases b <;> first | rfl | cases h
theorem ltK_tri {a b : Key} (h : isNum a = isNum b) : ltK a b = true ∨ a = b ∨ ltK b a = true := by
  cases a <;> cases b <;> first
    | (cases h; done)
    | (rename_i i j; rcases Int.lt_trichotomy i j with q | q | q
       · exact .inl (decide_eq_true q)
       · exact .inr (.inl (by rw [q]))
       · exact .inr (.inr (decide_eq_true q)))
    | (rename_i x y; rcases text_tri x y with q | q | q
       · exact .inl (decide_eq_true q)
       · exact .inr (.inl (by rw [q]))
       · exact .inr (.inr (decide_eq_true q)))
/-- columns -/
def tcl (c : Col) : Cl := (c.1, c.2.map kD)
def colsT (cs : List Col) : D := colsD (cs.map tcl)
def sp (cs : List Col) (a : Str) : Nat := cs.findIdx fun c => decide (c.1 = a)
def vals (cs : List Col) (a : Str) : List Key := (cs.getD (sp cs a) ("", [])).2
def has (cs : List Col) (a : Str) : Prop := ∃ c ∈ cs, c.1 = a
def nums (cs : List Col) (a : Str) : Bool := isNum ((vals cs a).getD 0 (.inl 0))
@[simp] theorem spotOf_t (cs : List Col) (a : Str) : spotOf (cs.map tcl) a = sp cs a := by
  unfold spotOf sp
  rw [List.findIdx_map]; rfl
@[simp] theorem valsOf_t (cs : List Col) (a : Str) : valsOf (cs.map tcl) a = (vals cs a).map kD := by
  unfold valsOf vals
  rw [spotOf_t, List.getD_eq_getElem?_getD, List.getD_eq_getElem?_getD, List.getElem?_map]
  cases cs[sp cs a]? <;> rfl
theorem hasCol_t {cs : List Col} {a : Str} : hasCol (cs.map tcl) (.str a) = true ↔ has cs a := by
  rw [hasCol_str]
  constructor
  · rintro ⟨c, hc, e⟩
    obtain ⟨d, hd, rfl⟩ := List.mem_map.mp hc
    exact ⟨d, hd, e⟩
  · rintro ⟨c, hc, e⟩
    exact ⟨_, List.mem_map.mpr ⟨c, hc, rfl⟩, e⟩
theorem sp_lt {cs : List Col} {a : Str} (h : has cs a) : sp cs a < cs.length := List.findIdx_lt_length_of_exists (let ⟨c, hc, e⟩ := h; ⟨c, hc, decide_eq_true e⟩)
theorem sp_get {cs : List Col} {a : Str} (h : has cs a) : ∃ c, cs[sp cs a]? = some c ∧ c.1 = a ∧ vals cs a = c.2 ∧ c ∈ cs := by
  have hl := sp_lt h
  refine ⟨cs[sp cs a], List.getElem?_eq_getElem hl, ?_, ?_, List.getElem_mem hl⟩
  · have := List.findIdx_getElem (p := fun c : Col => decide (c.1 = a)) (xs := cs) (w := hl)
    exact of_decide_eq_true this
  · unfold vals; rw [List.getD_eq_getElem?_getD, List.getElem?_eq_getElem hl]; rfl
structure GoodCol (l : Nat) (c : Col) : Prop where
  name : GoodW c.1
  some : 1 ≤ c.2.length
  most : c.2.length ≤ l
  homo : (∀ k ∈ c.2, ∃ i : Int, k = .inl i ∧ 0 ≤ i ∧ i ≤ 99) ∨ (∀ k ∈ c.2, ∃ z, k = .inr z ∧ GoodW z)
  rise : c.2.Pairwise fun a b => ltK a b = true
structure GoodCols (m l : Nat) (cs : List Col) : Prop where
  some : 1 ≤ cs.length
  most : cs.length ≤ m
  apart : (cs.map (·.1)).Nodup
  each : ∀ c ∈ cs, GoodCol l c
theorem GoodCol.mono {l l' : Nat} {c : Col} (h : GoodCol l c) (hl : l ≤ l') : GoodCol l' c := ⟨h.name, h.some, Nat.le_trans h.most hl, h.homo, h.rise⟩
theorem GoodCols.mono {m m' l l' : Nat} {cl : List Col} (h : GoodCols m l cl) (hm : m ≤ m') (hl : l ≤ l') : GoodCols m' l' cl := ⟨h.some, Nat.le_trans h.most hm, h.apart, fun c hc => (h.each c hc).mono hl⟩
theorem GoodCol.kind {l : Nat} {c : Col} (h : GoodCol l c) : ∀ k ∈ c.2, ∀ k' ∈ c.2, isNum k = isNum k' := by
  intro k hk k' hk'
  rcases h.homo with q | q
  · obtain ⟨i, rfl, _⟩ := q k hk; obtain ⟨j, rfl, _⟩ := q k' hk'; rfl
  · obtain ⟨i, rfl, _⟩ := q k hk; obtain ⟨j, rfl, _⟩ := q k' hk'; rfl
theorem GoodCol.nodup {l : Nat} {c : Col} (h : GoodCol l c) : c.2.Nodup := h.rise.imp fun q e => by rw [e, ltK_irr] at q; cases q
theorem GoodCols.vals {m l : Nat} {cs : List Col} (h : GoodCols m l cs) {a : Str} (ha : has cs a) : ∃ c ∈ cs, c.1 = a ∧ vals cs a = c.2 ∧ GoodCol l c := by
  obtain ⟨c, _, e, e2, hc⟩ := sp_get ha
  exact ⟨c, hc, e, e2, h.each c hc⟩
theorem nums_of {m l : Nat} {cs : List Col} (h : GoodCols m l cs) {a : Str} (ha : has cs a) : ∀ k ∈ vals cs a, isNum k = nums cs a := by
  obtain ⟨c, hc, e, e2, g⟩ := h.vals ha
  intro k hk
  unfold nums
  rw [e2] at hk ⊢
  refine g.kind k hk _ ?_
  have := g.some
  rw [List.getD_eq_getElem?_getD, List.getElem?_eq_getElem (show 0 < c.2.length by omega)]
  exact List.getElem_mem _
theorem GoodCol.homoD {l : Nat} {c : Col} (h : GoodCol l c) : Homo (c.2.map kD) := by
  rcases h.homo with q | q
  · refine .inl fun d hd => ?_
    obtain ⟨k, hk, rfl⟩ := List.mem_map.mp hd
    obtain ⟨i, rfl, _⟩ := q k hk
    exact ⟨i, rfl⟩
  · refine .inr fun d hd => ?_
    obtain ⟨k, hk, rfl⟩ := List.mem_map.mp hd
    obtain ⟨i, rfl, _⟩ := q k hk
    exact ⟨i, rfl⟩
theorem GoodCols.cols {m l : Nat} {cs : List Col} (h : GoodCols m l cs) (hm : m ≤ 100000) (hl : l ≤ 100000) : Cols (cs.map tcl) where
  flat := fun c hc => by
    obtain ⟨d, hd, rfl⟩ := List.mem_map.mp hc
    exact (h.each d hd).homoD.flat2
  few := by rw [List.length_map]; have := h.most; omega
  homo := fun c hc => by
    obtain ⟨d, hd, rfl⟩ := List.mem_map.mp hc
    exact (h.each d hd).homoD
  full := fun c hc => by
    obtain ⟨d, hd, rfl⟩ := List.mem_map.mp hc
    have := (h.each d hd).some
    have := (h.each d hd).most
    show 1 ≤ (d.2.map kD).length ∧ (d.2.map kD).length ≤ 100000
    rw [List.length_map]; omega
theorem risingS_pair : ∀ (r : List Str) (p : Str), risingS p r = true → (∀ x ∈ r, ¬ x.cps.toList < p.cps.toList) ∧ r.Pairwise fun a b => ¬ b.cps.toList < a.cps.toList
  | [], p, _ => ⟨(fun _ z => nomatch z), List.Pairwise.nil⟩
  | x :: r, p, h => by
    unfold risingS at h
    rw [Bool.and_eq_true, ltCps_eq] at h
    obtain ⟨i1, i2⟩ := risingS_pair r x h.2
    have h1 : ¬ x.cps.toList < p.cps.toList := by simpa using h.1
    refine ⟨fun y hy => ?_, List.pairwise_cons.mpr ⟨i1, i2⟩⟩
    rcases List.mem_cons.mp hy with rfl | hy
    · exact h1
    · have h2 := i1 y hy
      rw [List.not_lt] at h1 h2 ⊢
      exact List.le_trans h1 h2
theorem sortedS_pair {zs : List Str} (h : sortedS zs = true) : zs.Pairwise fun a b => ¬ b.cps.toList < a.cps.toList := by
  cases zs with
  | nil => exact List.Pairwise.nil
  | cons x r => obtain ⟨h1, h2⟩ := risingS_pair r x h; exact List.pairwise_cons.mpr ⟨h1, h2⟩
/-- what is drawn, as plain data -/
theorem GoodC.typed {l : Nat} {c : Cl} (h : GoodC l c) : ∃ t : Col, c = tcl t ∧ GoodCol l t := by
  obtain ⟨x, vs⟩ := c
  have h1 := h.some
  have h2 := h.most
  rcases h.vals with ⟨ns, e, hb, hr, hnd⟩ | ⟨zs, e, hg, hs, hnd⟩
  · simp only at e h1 h2
    subst e
    rw [List.length_map] at h1 h2
    refine ⟨(x, ns.map .inl), ?_, h.name, by simpa using h1, by simp; omega, .inl fun k hk => ?_, ?_⟩
    · show (x, ns.map D.int) = (x, (ns.map Sum.inl).map kD)
      rw [List.map_map]; rfl
    · obtain ⟨i, hi, rfl⟩ := List.mem_map.mp hk
      have := hb i hi
      exact ⟨i, rfl, this.1, by omega⟩
    · refine List.pairwise_map.mpr ((List.Pairwise.and hr hnd).imp fun {a b} q => decide_eq_true ?_)
      have := q.1; have := q.2; omega
  · simp only at e h1 h2
    subst e
    rw [List.length_map] at h1 h2
    refine ⟨(x, zs.map .inr), ?_, h.name, by simpa using h1, by simp; omega, .inr fun k hk => ?_, ?_⟩
    · show (x, zs.map D.str) = (x, (zs.map Sum.inr).map kD)
      rw [List.map_map]; rfl
    · obtain ⟨i, hi, rfl⟩ := List.mem_map.mp hk
      exact ⟨i, rfl, hg i hi⟩
    · have hs2 := sortedS_pair hs
      refine List.pairwise_map.mpr ((List.Pairwise.and hs2 hnd).imp fun {a b} q => ?_)
      show ltS a b = true
      rcases text_tri a b with z | z | z
      · exact decide_eq_true z
      · exact absurd z q.2
      · exact absurd z q.1
theorem GoodCs.typed {m l : Nat} : ∀ {cs : List Cl}, GoodCs m l cs → ∃ ts : List Col, cs = ts.map tcl ∧ GoodCols m l ts := by
  intro cs h
  have go : ∀ cs : List Cl, (∀ c ∈ cs, GoodC l c) → ∃ ts : List Col, cs = ts.map tcl ∧ ∀ t ∈ ts, GoodCol l t := by
    intro cs
    induction cs with
    | nil => intro _; exact ⟨[], rfl, fun _ z => nomatch z⟩
    | cons c r ih =>
      intro hc
      obtain ⟨t, e, g⟩ := (hc c List.mem_cons_self).typed
      obtain ⟨ts, e2, g2⟩ := ih fun d hd => hc d (List.mem_cons_of_mem _ hd)
      refine ⟨t :: ts, by rw [e, e2]; rfl, fun z hz => ?_⟩
      rcases List.mem_cons.mp hz with rfl | hz
      · exact g
      · exact g2 z hz
  obtain ⟨ts, rfl, g⟩ := go cs h.each
  have h1 := h.some
  have h2 := h.most
  have h3 := h.apart
  rw [List.length_map] at h1 h2
  rw [List.map_map] at h3
  exact ⟨ts, rfl, h1, by omega, h3, g⟩
end FL
set_option Elab.async false
set_option linter.all false
set_option maxRecDepth 100000
set_option maxHeartbeats 400000
namespace FL
open PySem PySem.Spec PyProof.Rows L2 Evl
/-! ### rules as plain data -/
inductive Rl where
  | less (a b : Str) | same (a b : Str) | apart (a b : Str) | iff (a : Str) (v : Key) (b : Str) (s : List Key) | only (a : Str) (s : List Key)
  | key (a : Str) | rising (a : Str) | sum (a : Str) (lo hi : Int) | share (a : Str) (v : Key) (lo hi : Int) | each (a : Str) | held (p : Nat) (a : Str) (v : Key) | lead (a b : Str) | seen (a : Str)
def keysT (s : List Key) : D := .tup (s.map kD)
def rlW : Rl → Str
  | .less .. => "less" | .same .. => "same" | .apart .. => "apart" | .iff .. => "if" | .only .. => "only" | .key .. => "key" | .rising .. => "rising" | .sum .. => "sum" | .share .. => "share" | .each .. => "each" | .held .. => "held" | .lead .. => "lead" | .seen .. => "seen"
def rlP : Rl → List D
  | .less a b => [.str a, .str b]
  | .same a b => [.str a, .str b]
  | .apart a b => [.str a, .str b]
  | .iff a v b s => [.str a, kD v, .str b, keysT s]
  | .only a s => [.str a, keysT s]
  | .key a => [.str a]
  | .rising a => [.str a]
  | .sum a lo hi => [.str a, .int lo, .int hi]
  | .share a v lo hi => [.str a, kD v, .int lo, .int hi]
  | .each a => [.str a]
  | .held p a v => [.int (p : Nat), .str a, kD v]
  | .lead a b => [.str a, .str b]
  | .seen a => [.str a]
def rlD (r : Rl) : D := .tup (.str (rlW r) :: rlP r)
def GoodSome (cs : List Col) (b : Str) (s : List Key) : Prop := s ≠ [] ∧ (∀ k ∈ s, k ∈ vals cs b) ∧ s.Pairwise (fun a b => ltK a b = true) ∧ s.length ≤ 8
/-- a rule that fits the columns -/
def GoodRl (cs : List Col) (many : Nat) : Rl → Prop
  | .less a b => has cs a ∧ has cs b ∧ a ≠ b ∧ nums cs a = true ∧ nums cs b = true
  | .same a b => has cs a ∧ has cs b ∧ a ≠ b ∧ nums cs a = nums cs b
  | .apart a b => has cs a ∧ has cs b ∧ a ≠ b ∧ nums cs a = nums cs b
  | .iff a v b s => has cs a ∧ has cs b ∧ a ≠ b ∧ v ∈ vals cs a ∧ GoodSome cs b s
  | .only a s => has cs a ∧ GoodSome cs a s
  | .key a => has cs a
  | .rising a => has cs a
  | .sum a lo hi => has cs a ∧ nums cs a = true ∧ 0 ≤ lo ∧ lo ≤ hi ∧ hi ≤ 999
  | .share a v lo hi => has cs a ∧ v ∈ vals cs a ∧ 0 ≤ lo ∧ lo ≤ hi ∧ hi ≤ many
  | .each a => has cs a
  | .held p a v => has cs a ∧ p < many ∧ v ∈ vals cs a
  | .lead a b => has cs a ∧ has cs b ∧ a ≠ b
  | .seen _ => False
structure Bk where
  cols : List Col
  many : Nat
  rules : List (Str × Rl)
def rulesT (rs : List (Str × Rl)) : D := .tup (rs.map fun e => .tup [.str e.1, rlD e.2])
def bkD (b : Bk) : D := .tup [colsT b.cols, .int (b.many : Nat), rulesT b.rules]
structure GoodBk (b : Bk) : Prop where
  cols : GoodCols 3 8 b.cols
  many : b.many ≤ 8
  few : b.rules.length ≤ 12
  names : ∀ e ∈ b.rules, GoodW e.1
  rise : b.rules.Pairwise fun e f => ltS e.1 f.1 = true
  rules : ∀ e ∈ b.rules, GoodRl b.cols b.many e.2
/-! ### rows, tables, and what they keep -/
def GoodRow (cs : List Col) (r : Row) : Prop := r.length = cs.length ∧ ∀ (i : Nat) (c : Col) (k : Key), cs[i]? = some c → r[i]? = some k → k ∈ c.2
def rowD (r : Row) : D := .tup (r.map kD)
def tabD (t : List Row) : D := .tup (t.map rowD)
def cell (cs : List Col) (r : Row) (a : Str) : Key := r.getD (sp cs a) (.inl 0)
def isRowRl : Rl → Bool
  | .less .. => true | .same .. => true | .apart .. => true | .iff .. => true | .only .. => true | _ => false
def rowKeeps (cs : List Col) (r : Row) : Rl → Bool
  | .less a b => ltK (cell cs r a) (cell cs r b)
  | .same a b => decide (cell cs r a = cell cs r b)
  | .apart a b => !decide (cell cs r a = cell cs r b)
  | .iff a v b s => !decide (cell cs r a = v) || decide (cell cs r b ∈ s)
  | .only a s => decide (cell cs r a ∈ s)
  | _ => true
def numK : Key → Int
  | .inl i => i
  | .inr _ => 0
def told (cs : List Col) (t : List Row) (a : Str) : List Key := t.map fun r => cell cs r a
def rowAt (t : List Row) (p : Nat) : Row := t.getD p []
def tabKeeps (cs : List Col) (t : List Row) : Rl → Bool
  | .key a => decide (told cs t a).Nodup
  | .rising a => decide ((told cs t a).Pairwise fun x y => ltK y x = false)
  | .sum a lo hi => decide (lo ≤ ((told cs t a).map numK).sum) && decide (((told cs t a).map numK).sum ≤ hi)
  | .share a v lo hi => decide (lo ≤ ((told cs t a).count v : Nat)) && decide (((told cs t a).count v : Nat) ≤ hi)
  | .each a => (vals cs a).all fun v => decide (v ∈ told cs t a)
  | .held p a v => decide (cell cs (rowAt t p) a = v)
  | .lead a b => t.all fun r => t.all fun q => !decide (cell cs r a = cell cs q a) || decide (cell cs r b = cell cs q b)
  | .seen _ => true
  | r => t.all fun row => rowKeeps cs row r
theorem cell_get {cs : List Col} {r : Row} {a : Str} (hr : GoodRow cs r) (ha : has cs a) : r[sp cs a]? = some (cell cs r a) ∧ cell cs r a ∈ vals cs a := by
  have hl := sp_lt ha
  have h1 : sp cs a < r.length := by rw [hr.1]; exact hl
  have e : r[sp cs a]? = some (cell cs r a) := by
    unfold cell
    rw [List.getD_eq_getElem?_getD, List.getElem?_eq_getElem h1]; rfl
  obtain ⟨c, hc, _, e2, _⟩ := sp_get ha
  exact ⟨e, by rw [e2]; exact hr.2 _ _ _ hc e⟩
theorem atI_cell {cs : List Col} {r : Row} {a : Str} (hr : GoodRow cs r) (ha : has cs a) : atI (r.map kD) (sp cs a : Int) = some (kD (cell cs r a)) := atI_nat (by rw [List.getElem?_map, (cell_get hr ha).1]; rfl)
/-- all rows, in order -/
def allRows (cs : List Col) : List Row := cs.foldl (fun found c => found.flatMap fun r => c.2.map fun v => r ++ [v]) [[]]
theorem allRows_snoc (cs : List Col) (c : Col) : allRows (cs ++ [c]) = (allRows cs).flatMap fun r => c.2.map fun v => r ++ [v] := by
  unfold allRows; rw [List.foldl_append]; rfl
theorem GoodRow.snoc {cs : List Col} {c : Col} {r : Row} {v : Key} (h : GoodRow cs r) (hv : v ∈ c.2) : GoodRow (cs ++ [c]) (r ++ [v]) := by
  refine ⟨by simp [h.1], fun i d k hd hk => ?_⟩
  by_cases hi : i < cs.length
  · rw [List.getElem?_append_left hi] at hd
    rw [List.getElem?_append_left (by rw [h.1]; exact hi)] at hk
    exact h.2 i d k hd hk
  · have hl : i < (cs ++ [c]).length := (List.getElem?_eq_some_iff.mp hd).1
    rw [List.length_append, List.length_singleton] at hl
    obtain rfl : i = cs.length := by omega
    rw [List.getElem?_append_right (Nat.le_refl _), Nat.sub_self] at hd
    rw [List.getElem?_append_right (by rw [h.1]; exact Nat.le_refl _), h.1, Nat.sub_self] at hk
    cases hd; cases hk; exact hv
theorem mem_allRows : ∀ (cs : List Col) (r : Row), r ∈ allRows cs ↔ GoodRow cs r := by
  intro cs
  have go : ∀ n, ∀ cs : List Col, cs.length = n → ∀ r : Row, r ∈ allRows cs ↔ GoodRow cs r := by
    intro n
    induction n with
    | zero =>
      intro cs hn r
      obtain rfl := List.length_eq_zero_iff.mp hn
      show r ∈ [[]] ↔ _
      rw [List.mem_singleton]
      exact ⟨fun e => by rw [e]; exact ⟨rfl, fun i c k h => nomatch h⟩, fun h => List.length_eq_zero_iff.mp h.1⟩
    | succ n ih =>
      intro cs hn r
      obtain ⟨ds, c, rfl⟩ : ∃ ds c, cs = ds ++ [c] := ⟨cs.dropLast, cs.getLast (by intro e; rw [e] at hn; cases hn), (List.dropLast_concat_getLast _).symm⟩
      have hd : ds.length = n := by simpa using hn
      rw [allRows_snoc, List.mem_flatMap]
      constructor
      · rintro ⟨q, hq, hr⟩
        obtain ⟨v, hv, rfl⟩ := List.mem_map.mp hr
        exact ((ih ds hd q).mp hq).snoc hv
      · intro h
        have hl : r.length = ds.length + 1 := by rw [h.1]; simp
        obtain ⟨q, v, rfl⟩ : ∃ q v, r = q ++ [v] := ⟨r.dropLast, r.getLast (by intro e; rw [e] at hl; simp at hl), (List.dropLast_concat_getLast _).symm⟩
        have hql : q.length = ds.length := by simpa using hl
        refine ⟨q, (ih ds hd q).mpr ⟨hql, fun i d k h1 h2 => ?_⟩, List.mem_map.mpr ⟨v, ?_, rfl⟩⟩
        · have i1 := (List.getElem?_eq_some_iff.mp h1).1
          exact h.2 i d k (by rw [List.getElem?_append_left i1]; exact h1) (by rw [List.getElem?_append_left (by omega)]; exact h2)
        · exact h.2 ds.length c v (by simp) (by rw [List.getElem?_append_right (by omega), hql]; simp)
  exact go cs.length cs rfl
end FL
set_option Elab.async false
set_option linter.all false
set_option maxRecDepth 100000
set_option maxHeartbeats 400000
namespace FL
open PySem PySem.Spec PyProof.Rows L2 Evl
theorem tcl_inj {a b : Col} (h : tcl a = tcl b) : a = b := by
  obtain ⟨x, u⟩ := a; obtain ⟨y, v⟩ := b
  unfold tcl at h
  injection h with h1 h2
  have h1 : x = y := h1
  have h2 : u.map kD = v.map kD := h2
  rw [h1, (List.map_inj_right fun _ _ z => kD_inj z).mp h2]
@[simp] theorem colsT_inj {a b : List Col} : colsT a = colsT b ↔ a = b := by
  refine ⟨fun h => ?_, fun h => by rw [h]⟩
  unfold colsT at h
  exact (List.map_inj_right fun _ _ z => tcl_inj z).mp (colsD_inj.mp h)
theorem rowD_inj' {a b : Row} (h : rowD a = rowD b) : a = b := (List.map_inj_right fun _ _ z => kD_inj z).mp (D.tup.inj h)
@[simp] theorem rowD_inj {a b : Row} : rowD a = rowD b ↔ a = b := ⟨rowD_inj', fun h => by rw [h]⟩
@[simp] theorem keysT_inj {a b : Row} : keysT a = keysT b ↔ a = b := ⟨rowD_inj', fun h => by rw [h]⟩
theorem tabD_inj' {a b : List Row} (h : tabD a = tabD b) : a = b := (List.map_inj_right fun _ _ z => rowD_inj' z).mp (D.tup.inj h)
@[simp] theorem tabD_inj {a b : List Row} : tabD a = tabD b ↔ a = b := ⟨tabD_inj', fun h => by rw [h]⟩
@[simp] theorem kD_inj_iff {a b : Key} : kD a = kD b ↔ a = b := ⟨kD_inj, fun h => by rw [h]⟩
theorem W_seen : ∀ z ∈ (["less", "same", "apart", "if", "only", "key", "rising", "sum", "share", "each", "held", "lead"] : List Str), z ≠ Str.ofString "seen" := by decide +kernel
@[simp] theorem ne_less_seen : (Str.ofString "less" = Str.ofString "seen") = False := eq_false (by decide +kernel)
@[simp] theorem ne_same_seen : (Str.ofString "same" = Str.ofString "seen") = False := eq_false (by decide +kernel)
@[simp] theorem ne_apart_seen : (Str.ofString "apart" = Str.ofString "seen") = False := eq_false (by decide +kernel)
@[simp] theorem ne_if_seen : (Str.ofString "if" = Str.ofString "seen") = False := eq_false (by decide +kernel)
@[simp] theorem ne_only_seen : (Str.ofString "only" = Str.ofString "seen") = False := eq_false (by decide +kernel)
@[simp] theorem ne_key_seen : (Str.ofString "key" = Str.ofString "seen") = False := eq_false (by decide +kernel)
@[simp] theorem ne_rising_seen : (Str.ofString "rising" = Str.ofString "seen") = False := eq_false (by decide +kernel)
@[simp] theorem ne_sum_seen : (Str.ofString "sum" = Str.ofString "seen") = False := eq_false (by decide +kernel)
@[simp] theorem ne_share_seen : (Str.ofString "share" = Str.ofString "seen") = False := eq_false (by decide +kernel)
@[simp] theorem ne_each_seen : (Str.ofString "each" = Str.ofString "seen") = False := eq_false (by decide +kernel)
@[simp] theorem ne_held_seen : (Str.ofString "held" = Str.ofString "seen") = False := eq_false (by decide +kernel)
@[simp] theorem ne_lead_seen : (Str.ofString "lead" = Str.ofString "seen") = False := eq_false (by decide +kernel)
@[simp] theorem ne_seen_less : (Str.ofString "seen" = Str.ofString "less") = False := eq_false (by decide +kernel)
@[simp] theorem ne_seen_same : (Str.ofString "seen" = Str.ofString "same") = False := eq_false (by decide +kernel)
@[simp] theorem ne_seen_apart : (Str.ofString "seen" = Str.ofString "apart") = False := eq_false (by decide +kernel)
@[simp] theorem ne_seen_if : (Str.ofString "seen" = Str.ofString "if") = False := eq_false (by decide +kernel)
@[simp] theorem ne_seen_only : (Str.ofString "seen" = Str.ofString "only") = False := eq_false (by decide +kernel)
@[simp] theorem ne_seen_key : (Str.ofString "seen" = Str.ofString "key") = False := eq_false (by decide +kernel)
@[simp] theorem ne_seen_rising : (Str.ofString "seen" = Str.ofString "rising") = False := eq_false (by decide +kernel)
@[simp] theorem ne_seen_sum : (Str.ofString "seen" = Str.ofString "sum") = False := eq_false (by decide +kernel)
@[simp] theorem ne_seen_share : (Str.ofString "seen" = Str.ofString "share") = False := eq_false (by decide +kernel)
@[simp] theorem ne_seen_each : (Str.ofString "seen" = Str.ofString "each") = False := eq_false (by decide +kernel)
@[simp] theorem ne_seen_held : (Str.ofString "seen" = Str.ofString "held") = False := eq_false (by decide +kernel)
@[simp] theorem ne_seen_lead : (Str.ofString "seen" = Str.ofString "lead") = False := eq_false (by decide +kernel)
theorem rlD_inj' {a b : Rl} (h : rlD a = rlD b) : a = b := by
  cases a <;> cases b <;> simp [rlD, rlW, rlP] at h <;> simp [h] <;> omega
@[simp] theorem rlD_inj {a b : Rl} : rlD a = rlD b ↔ a = b := ⟨rlD_inj', fun h => by rw [h]⟩
@[simp] theorem bkD_inj {a b : Bk} : bkD a = bkD b ↔ a = b := by
  refine ⟨fun h => ?_, fun h => by rw [h]⟩
  obtain ⟨c1, m1, r1⟩ := a
  obtain ⟨c2, m2, r2⟩ := b
  unfold bkD rulesT at h
  simp at h
  obtain ⟨h1, h2, h3⟩ := h
  have h3 : r1 = r2 := by
    refine (List.map_inj_right fun x y z => ?_).mp h3
    simp at z
    exact Prod.ext z.1 z.2
  rw [h1, h3]
  have : m1 = m2 := by omega
  rw [this]
/-! ### books and rules pass the looks -/
@[simp] theorem rise_kD {l : List Key} (h : l.Pairwise fun a b => ltK a b = true) : rise (l.map kD) = true := by
  unfold rise
  rw [List.all_eq_true]
  intro k hk
  rw [List.mem_range, List.length_map] at hk
  have e : ∀ i (hi : i < l.length), nth (l.map kD) i = kD l[i] := fun i hi => by
    unfold nth; rw [List.getD_eq_getElem?_getD, List.getElem?_map, List.getElem?_eq_getElem hi]; rfl
  rw [e k (by omega), e (k + 1) (by omega), ltD_kD]
  exact List.pairwise_iff_getElem.mp h k (k + 1) (by omega) (by omega) (by omega)
theorem isValue_kD {vs : List Key} {k : Key} : isValue (vs.map kD) (kD k) = decide (k ∈ vs) := by
  unfold isValue
  rw [inD_kD]
  cases k <;> rfl
theorem areSome_kD {cs : List Col} {b : Str} {s : List Key} (h : GoodSome cs b s) : areSome ((vals cs b).map kD) (keysT s) = true := by
  unfold areSome keysT
  dsimp only
  rw [rise_kD h.2.2.1, Bool.and_true, Bool.and_eq_true, List.all_map, List.all_eq_true]
  refine ⟨by cases s with
    | nil => exact absurd rfl h.1
    | cons a b => rfl, fun k hk => ?_⟩
  show isValue _ (kD k) = true
  rw [isValue_kD]
  exact decide_eq_true (h.2.1 k hk)
theorem numsD_t {m l : Nat} {cs : List Col} (h : GoodCols m l cs) {a : Str} (ha : has cs a) : numsD ((vals cs a).map kD) = nums cs a := by
  obtain ⟨c, hc, e, e2, g⟩ := h.vals ha
  unfold numsD nums
  rw [e2]
  have := g.some
  have e : nth (c.2.map kD) 0 = kD (c.2.getD 0 (.inl 0)) := by
    unfold nth
    rw [List.getD_eq_getElem?_getD, List.getD_eq_getElem?_getD, List.getElem?_map, List.getElem?_eq_getElem (show 0 < c.2.length by omega)]; rfl
  rw [e]
  exact isInt_kD _
@[simp] theorem valsD_str {cs : List Cl} {a : Str} : valsD cs (.str a) = valsOf cs a := rfl
@[simp] theorem lens_less : lens.lookup (Str.ofString "less") = some 3 := by decide +kernel
@[simp] theorem lens_same : lens.lookup (Str.ofString "same") = some 3 := by decide +kernel
@[simp] theorem lens_apart : lens.lookup (Str.ofString "apart") = some 3 := by decide +kernel
@[simp] theorem lens_if : lens.lookup (Str.ofString "if") = some 5 := by decide +kernel
@[simp] theorem lens_only : lens.lookup (Str.ofString "only") = some 3 := by decide +kernel
@[simp] theorem lens_key : lens.lookup (Str.ofString "key") = some 2 := by decide +kernel
@[simp] theorem lens_rising : lens.lookup (Str.ofString "rising") = some 2 := by decide +kernel
@[simp] theorem lens_sum : lens.lookup (Str.ofString "sum") = some 4 := by decide +kernel
@[simp] theorem lens_share : lens.lookup (Str.ofString "share") = some 5 := by decide +kernel
@[simp] theorem lens_each : lens.lookup (Str.ofString "each") = some 2 := by decide +kernel
@[simp] theorem lens_held : lens.lookup (Str.ofString "held") = some 4 := by decide +kernel
@[simp] theorem lens_lead : lens.lookup (Str.ofString "lead") = some 3 := by decide +kernel
theorem isRule_rlD {m l : Nat} {cs : List Col} (hc : GoodCols m l cs) {many : Nat} {r : Rl} (h : GoodRl cs many r) : isRule (cs.map tcl) (many : Nat) (rlD r) = true := by
  have two : ∀ {a b : Str}, has cs a → has cs b → numsD ((vals cs a).map kD) = nums cs a ∧ numsD ((vals cs b).map kD) = nums cs b := fun ha hb => ⟨numsD_t hc ha, numsD_t hc hb⟩
  cases r <;> unfold GoodRl at h
  case less a b => obtain ⟨h1, h2, h3, h4, h5⟩ := h; simp [isRule, rlD, rlW, rlP, isOfTwo, hasCol_t.mpr h1, hasCol_t.mpr h2, h3, numsD_t hc h1, numsD_t hc h2, h4, h5]
  case same a b => obtain ⟨h1, h2, h3, h4⟩ := h; simp [isRule, rlD, rlW, rlP, isOfTwo, hasCol_t.mpr h1, hasCol_t.mpr h2, h3, numsD_t hc h1, numsD_t hc h2, h4]
  case apart a b => obtain ⟨h1, h2, h3, h4⟩ := h; simp [isRule, rlD, rlW, rlP, isOfTwo, hasCol_t.mpr h1, hasCol_t.mpr h2, h3, numsD_t hc h1, numsD_t hc h2, h4]
  case iff a v b s => obtain ⟨h1, h2, h3, h4, h5⟩ := h; simp [isRule, rlD, rlW, rlP, hasCol_t.mpr h1, hasCol_t.mpr h2, h3, isValue_kD, h4, areSome_kD h5]
  case only a s => obtain ⟨h1, h2⟩ := h; simp [isRule, rlD, rlW, rlP, isOfOne, hasCol_t.mpr h1, areSome_kD h2]
  case key a => simp [isRule, rlD, rlW, rlP, isOfOne, hasCol_t.mpr h]
  case rising a => simp [isRule, rlD, rlW, rlP, isOfOne, hasCol_t.mpr h]
  case sum a lo hi => obtain ⟨h1, h2, h3, h4, h5⟩ := h; simp [isRule, rlD, rlW, rlP, isOfOne, hasCol_t.mpr h1, numsD_t hc h1, h2, isWhole]; omega
  case share a v lo hi => obtain ⟨h1, h2, h3, h4, h5⟩ := h; simp [isRule, rlD, rlW, rlP, isOfOne, hasCol_t.mpr h1, isValue_kD, h2, isWhole]; omega
  case each a => simp [isRule, rlD, rlW, rlP, isOfOne, hasCol_t.mpr h]
  case held p a v => obtain ⟨h1, h2, h3⟩ := h; simp [isRule, rlD, rlW, rlP, hasCol_t.mpr h1, isValue_kD, h3, isWhole]; omega
  case lead a b => obtain ⟨h1, h2, h3⟩ := h; simp [isRule, rlD, rlW, rlP, isOfTwo, hasCol_t.mpr h1, hasCol_t.mpr h2, h3]
  case seen a => exact h.elim
theorem isWord_of {z : Str} (h : GoodW z) : isWordD (.str z) = true := by
  unfold isWordD
  dsimp only
  rw [decide_eq_true h.1, decide_eq_true h.2.1, Bool.true_and, Bool.true_and, List.all_eq_true]
  intro c hc
  obtain ⟨h1, h2⟩ := h.2.2 c hc
  have : small.cps.toList = (List.range 26).map (· + 97) := by decide +kernel
  rw [this]
  exact decide_eq_true (List.mem_map.mpr ⟨c - 97, List.mem_range.mpr (by omega), by omega⟩)
theorem dedK_of_nodup {ks : List Key} (h : ks.Nodup) : (dedK ks).length = ks.length := by
  suffices g : ∀ (ks acc : List Key), ks.Nodup → (∀ k ∈ ks, k ∉ acc) → (ks.foldl stepK acc).length = acc.length + ks.length by
    have := g ks [] h (fun _ _ z => nomatch z)
    simpa [dedK] using this
  intro ks
  induction ks with
  | nil => intro acc _ _; simp
  | cons k r ih =>
    intro acc hn ha
    obtain ⟨h1, h2⟩ := List.nodup_cons.mp hn
    have e2 : stepK acc k = acc ++ [k] := by
      unfold stepK
      rw [if_neg]
      intro hk
      obtain ⟨x, hx, e⟩ := List.any_eq_true.mp hk
      exact ha k List.mem_cons_self (of_decide_eq_true e ▸ hx)
    rw [List.foldl_cons, e2, ih _ h2 ?_]
    · simp; omega
    · intro j hj hm
      rcases List.mem_append.mp hm with hm | hm
      · exact ha j (List.mem_cons_of_mem _ hj) hm
      · rw [List.mem_singleton.mp hm] at hj; exact h1 hj
theorem areValues_t {l : Nat} {c : Col} (h : GoodCol l c) (hl : l ≤ 8) : areValuesD (.tup (c.2.map kD)) = true := by
  unfold areValuesD
  dsimp only
  have h1 := h.some
  have h2 := h.most
  rw [List.length_map, decide_eq_true h1, decide_eq_true (show c.2.length ≤ 8 by omega), rise_kD h.rise, Bool.and_true, Bool.true_and, Bool.true_and, Bool.or_eq_true, List.all_map, List.all_map, List.all_eq_true, List.all_eq_true]
  rcases h.homo with q | q
  · refine .inr fun k hk => ?_
    obtain ⟨i, rfl, i0, i1⟩ := q k hk
    show isWhole (.int i) 0 99 = true
    simp [isWhole]; omega
  · refine .inl fun k hk => ?_
    obtain ⟨z, rfl, hz⟩ := q k hk
    exact isWord_of hz
theorem areColumns_t {cs : List Col} (h : GoodCols 3 8 cs) : areColumnsD (colsT cs) = true := by
  unfold areColumnsD colsT colsD
  dsimp only
  have h1 := h.some
  have h2 := h.most
  rw [List.length_map, List.length_map, decide_eq_true h1, decide_eq_true h2, Bool.true_and, Bool.true_and, Bool.and_eq_true, decide_eq_true_eq]
  constructor
  · rw [List.all_map, List.all_map, List.all_eq_true]
    intro c hc
    have g := h.each c hc
    show (isWordD (.str c.1) && areValuesD (.tup (c.2.map kD))) = true
    rw [isWord_of g.name, areValues_t g (Nat.le_refl _)]; rfl
  · have e : ((cs.map tcl).map colD).map headK = (cs.map (·.1)).map Sum.inr := by
      rw [List.map_map, List.map_map, List.map_map]; rfl
    rw [e, dedK_of_nodup, List.length_map, List.length_map]
    exact List.pairwise_map.mpr (h.apart.imp fun q z => q (Sum.inr.inj z))
theorem colsOf_t (cs : List Col) : colsOf (colsT cs) = cs.map tcl := by
  unfold colsOf colsT colsD
  dsimp only
  rw [List.map_map]
  conv => rhs; rw [← List.map_id (cs.map tcl)]
  exact List.map_congr_left fun c _ => rfl
theorem isBook_bkD {b : Bk} (h : GoodBk b) : isBookD (bkD b) = true := by
  unfold isBookD bkD rulesT
  dsimp only
  have hm := h.many
  rw [areColumns_t h.cols, colsOf_t, Bool.true_and, Bool.and_eq_true]
  refine ⟨by simp [isWhole]; omega, ?_⟩
  unfold areNamedD
  dsimp only
  rw [List.length_map, decide_eq_true h.few, Bool.true_and, Bool.and_eq_true, List.all_map, List.all_eq_true]
  refine ⟨fun e he => ?_, ?_⟩
  · show (isWordD (.str e.1) && isRule _ _ (rlD e.2)) = true
    rw [isWord_of (h.names e he), isRule_rlD h.cols (h.rules e he)]; rfl
  · have e : (b.rules.map fun e => D.tup [.str e.1, rlD e.2]).map headD = (b.rules.map fun e => (Sum.inr e.1 : Key)).map kD := by
      rw [List.map_map, List.map_map]; rfl
    rw [e]
    exact rise_kD (List.pairwise_map.mpr h.rise)
theorem isRow_t {cs : List Col} (hc : GoodCols 3 8 cs) {r : Row} : isRowD (cs.map tcl) (rowD r) = true ↔ GoodRow cs r := by
  have hz : ∀ (n : Nat) (hn : n < cs.length), valsOf (cs.map tcl) cs[n].1 = cs[n].2.map kD := fun n hn => by
    have h1 := valsOf_nd (cs := cs.map tcl) (by rw [List.map_map]; exact hc.apart) (n := n) (by simpa using hn)
    simpa [tcl] using h1
  unfold isRowD rowD GoodRow
  dsimp only
  rw [List.length_map, List.length_map, Bool.and_eq_true, decide_eq_true_eq, List.all_eq_true]
  constructor
  · rintro ⟨h1, h2⟩
    refine ⟨h1, fun i c k e1 e2 => ?_⟩
    obtain ⟨i1, e1⟩ := List.getElem?_eq_some_iff.mp e1
    obtain ⟨i2, e2⟩ := List.getElem?_eq_some_iff.mp e2
    have := h2 (isValue (valsOf (cs.map tcl) cs[i].1) (kD r[i])) (List.mem_of_getElem? (i := i) (by rw [List.getElem?_zipWith, List.getElem?_map, List.getElem?_map, List.getElem?_eq_getElem i1, List.getElem?_eq_getElem i2]; rfl))
    rw [hz i i1, show id (isValue (cs[i].2.map kD) (kD r[i])) = isValue (cs[i].2.map kD) (kD r[i]) from rfl, isValue_kD] at this
    rw [← e1, ← e2]
    exact of_decide_eq_true this
  · rintro ⟨h1, h2⟩
    refine ⟨h1, fun b hb => ?_⟩
    obtain ⟨i, hi⟩ := List.mem_iff_getElem?.mp hb
    rw [List.getElem?_zipWith, List.getElem?_map, List.getElem?_map] at hi
    cases q1 : cs[i]? with
    | none => rw [q1] at hi; simp at hi
    | some c =>
      cases q2 : r[i]? with
      | none => rw [q1, q2] at hi; simp at hi
      | some k =>
        rw [q1, q2] at hi
        obtain ⟨i1, e1⟩ := List.getElem?_eq_some_iff.mp q1
        have := h2 i c k q1 q2
        have hv := hz i i1
        rw [e1] at hv
        have : b = isValue (valsOf (cs.map tcl) c.1) (kD k) := (Option.some.inj hi).symm
        rw [this, hv]
        show isValue _ _ = true
        rw [isValue_kD]
        exact decide_eq_true (by assumption)
theorem isTable_t {b : Bk} (h : GoodBk b) {t : List Row} : isTableD (bkD b) (tabD t) = true ↔ (t.length = b.many ∧ ∀ r ∈ t, GoodRow b.cols r) := by
  unfold isTableD bkD tabD
  dsimp only
  rw [colsOf_t, List.length_map, Bool.and_eq_true, decide_eq_true_eq, List.all_map, List.all_eq_true]
  refine ⟨fun ⟨h1, h2⟩ => ⟨by omega, fun r hr => (isRow_t h.cols).mp (h2 r hr)⟩, fun ⟨h1, h2⟩ => ⟨by omega, fun r hr => (isRow_t h.cols).mpr (h2 r hr)⟩⟩
theorem deps_kD (l : List Key) : deps (l.map kD) ≤ 60 := by
  have : deps (l.map kD) ≤ 0 := deps_le (n := 0) fun v hv => by obtain ⟨k, _, rfl⟩ := List.mem_map.mp hv; rw [dep_kD]; exact Nat.le_refl _
  omega
theorem pures_kD (l : List Key) : pures (l.map kD) = true := by
  rw [pures_all, List.all_eq_true]
  intro d hd
  obtain ⟨k, _, rfl⟩ := List.mem_map.mp hd
  exact pure_kD k
end FL
set_option Elab.async false
set_option linter.all false
set_option maxRecDepth 100000
set_option maxHeartbeats 400000
namespace FL
open PySem PySem.Spec PyProof.Rows L2 Evl
/-! ### rules and books drawn, as plain data -/
@[simp ↓] def g__law_rule : Fn := fun ds M Q _ => match ds with
  | [.ptr a, c, .int many] => ∃ cs, c = colsT cs ∧ M a = some .well ∧ GoodCols 3 8 cs ∧ 0 ≤ many ∧ many ≤ 8 ∧ ∀ r, GoodRl cs many.toNat r → Q (rlD r) M
  | _ => False
@[simp ↓] def g__law_book : Fn := fun ds M Q _ => match ds with
  | [.ptr a, .int most, .int longest, .int rows, .int rules] => M a = some .well ∧ 0 < most ∧ most ≤ 3 ∧ 0 < longest ∧ longest ≤ 8 ∧ 0 ≤ rows ∧ rows ≤ 8 ∧ 0 ≤ rules ∧ rules ≤ 12 ∧ ∀ b, GoodBk b → (b.many : Int) ≤ rows → Q (bkD b) M
  | _ => False
/- _law_rule: 0 _law_well_here 1 _law_columns_here 2 _law_many 3 _law_value 4 _law_way 5 _law_a 6 _law_values 7 _law_b 8 _law_others 9 _law_low 10 _law_high -/
abbrev N__law_rule : List Str := ["_law_well_here", "_law_columns_here", "_law_many", "_law_value", "_law_way", "_law_a", "_law_values", "_law_b", "_law_others", "_law_low", "_law_high"]
def w__law_rule_15 : SS := (sSeq (sRet (w2 sSub1 (wF (sLst false) (aCons (wF sTup (aCons (wC (.str "same")) (aCons (wSlot 5) (aCons (wSlot 7) aNil)))) (aCons (wF sTup (aCons (wC (.str "apart")) (aCons (wSlot 5) (aCons (wSlot 7) aNil)))) aNil))) (wCall 2 g__law_take (aCons (wSlot 0) (aCons (wC (.int 2)) aNil)))))
sNil)
def w__law_rule_14 : SS := (sSeq (sIf (tAnd (wTest (w2 (sEq false) (wSlot 4) (wC (.int 11)))) (wTest (wIs1 .int (wSlot 3))))
 (sSeq (sRet (wF sTup (aCons (wC (.str "less")) (aCons (wSlot 5) (aCons (wSlot 7) aNil)))))
sNil)
 sNil)
w__law_rule_15)
def w__law_rule_13 : SS := (sSeq (sIf (tOr (wTest (w2 sLt (wSlot 4) (wC (.int 11)))) (wTest (w2 (sEq true) (wIs1 .int (w2 sSub1 (wSlot 6) (wC (.int 0)))) (wIs1 .int (w2 sSub1 (wSlot 8) (wC (.int 0)))))))
 (sSeq (sRet (wF sTup (aCons (wC (.str "if")) (aCons (wSlot 5) (aCons (wSlot 3) (aCons (wSlot 7) (aCons (wCall 2 g__law_some (aCons (wSlot 0) (aCons (wSlot 8) aNil))) aNil)))))))
sNil)
 sNil)
w__law_rule_14)
def w__law_rule_12 : SS := (sSeq (sIf (wTest (w2 (sEq false) (wSlot 4) (wC (.int 8))))
 (sSeq (sRet (wF sTup (aCons (wC (.str "lead")) (aCons (wSlot 5) (aCons (wSlot 7) aNil)))))
sNil)
 sNil)
w__law_rule_13)
def w__law_rule_11 : SS := (sSeq (sIf (tOr (wTest (w2 (sEq false) (wSlot 5) (wSlot 7))) (wTest (w2 (sEq false) (wSlot 4) (wC (.int 7)))))
 (sSeq (sRet (w2 sSub1 (wF (sLst false) (aCons (wF sTup (aCons (wC (.str "key")) (aCons (wSlot 5) aNil))) (aCons (wF sTup (aCons (wC (.str "rising")) (aCons (wSlot 5) aNil))) (aCons (wF sTup (aCons (wC (.str "each")) (aCons (wSlot 5) aNil))) aNil)))) (wCall 2 g__law_take (aCons (wSlot 0) (aCons (wC (.int 3)) aNil)))))
sNil)
 sNil)
w__law_rule_12)
def w__law_rule_10 : SS := (sSeq (sIf (wTest (w2 (sEq false) (wSlot 4) (wC (.int 6))))
 (sSeq (sRet (wF sTup (aCons (wC (.str "rising")) (aCons (wSlot 5) aNil))))
sNil)
 sNil)
w__law_rule_11)
def w__law_rule_9 : SS := (sSeq (sIf (tAnd (wTest (w2 (sEq false) (wSlot 4) (wC (.int 5)))) (wTest (wIs1 .int (wSlot 3))))
 (sSeq (sAsg (gSlot 9) (wCall 2 g__law_take (aCons (wSlot 0) (aCons (w2 (sAdd false) (w2 sDiv (w2 (sMulA false) (wSlot 2) (w2 sSub1 (wSlot 6) (wNeg (wC (.int 1))))) (wC (.int 2))) (wC (.int 2))) aNil))))
(sSeq (sRet (wF sTup (aCons (wC (.str "sum")) (aCons (wSlot 5) (aCons (wSlot 9) (aCons (w2 (sAdd false) (wSlot 9) (wCall 2 g__law_take (aCons (wSlot 0) (aCons (w2 (sAdd false) (w2 sDiv (w2 (sMulA false) (wSlot 2) (w2 sSub1 (wSlot 6) (wNeg (wC (.int 1))))) (wC (.int 2))) (wC (.int 2))) aNil)))) aNil))))))
sNil))
 sNil)
w__law_rule_10)
def w__law_rule_8 : SS := (sSeq (sIf (tAnd (wTest (w2 (sEq false) (wSlot 4) (wC (.int 4)))) (wTest (w2 sGt (wSlot 2) (wC (.int 0)))))
 (sSeq (sRet (wF sTup (aCons (wC (.str "held")) (aCons (wCall 2 g__law_take (aCons (wSlot 0) (aCons (wSlot 2) aNil))) (aCons (wSlot 5) (aCons (wSlot 3) aNil))))))
sNil)
 sNil)
w__law_rule_9)
def w__law_rule_7 : SS := (sSeq (sIf (wTest (w2 (sEq false) (wSlot 4) (wC (.int 3))))
 (sSeq (sRet (wF sTup (aCons (wC (.str "each")) (aCons (wSlot 5) aNil))))
sNil)
 sNil)
w__law_rule_8)
def w__law_rule_6 : SS := (sSeq (sIf (tOr (wTest (w2 (sEq false) (wSlot 4) (wC (.int 1)))) (wTest (w2 (sEq false) (wSlot 4) (wC (.int 2)))))
 (sSeq (sRet (wF sTup (aCons (wC (.str "share")) (aCons (wSlot 5) (aCons (wSlot 3) (aCons (wSlot 9) (aCons (wSlot 10) aNil)))))))
sNil)
 sNil)
w__law_rule_7)
def w__law_rule_5 : SS := (sSeq (sIf (wTest (w2 (sEq false) (wSlot 4) (wC (.int 0))))
 (sSeq (sRet (wF sTup (aCons (wC (.str "only")) (aCons (wSlot 5) (aCons (wCall 2 g__law_some (aCons (wSlot 0) (aCons (wSlot 6) aNil))) aNil)))))
sNil)
 sNil)
w__law_rule_6)
def w__law_rule_4 : SS := (sSeq (sAsg (gTuple [9, 10]) (wCall 2 g__law_span (aCons (wSlot 0) (aCons (wSlot 2) aNil))))
w__law_rule_5)
def w__law_rule_3 : SS := (sSeq (sAsg (gSlot 4) (wCall 2 g__law_take (aCons (wSlot 0) (aCons (wC (.int 14)) aNil))))
w__law_rule_4)
def w__law_rule_2 : SS := (sSeq (sAsg (gSlot 3) (w2 sSub1 (wSlot 6) (wCall 2 g__law_take (aCons (wSlot 0) (aCons (wF sLen (aCons (wSlot 6) aNil)) aNil)))))
w__law_rule_3)
def w__law_rule_1 : SS := (sSeq (sAsg (gTuple [7, 8]) (w2 sSub1 (wSlot 1) (wCall 2 g__law_take (aCons (wSlot 0) (aCons (wF sLen (aCons (wSlot 1) aNil)) aNil)))))
w__law_rule_2)
def w__law_rule : SS := (sSeq (sAsg (gTuple [5, 6]) (w2 sSub1 (wSlot 1) (wCall 2 g__law_take (aCons (wSlot 0) (aCons (wF sLen (aCons (wSlot 1) aNil)) aNil)))))
w__law_rule_1)
/- _law_book: 0 _law_well_here 1 _law_most 2 _law_longest 3 _law_rows_here 4 _law_rules 5 _law_columns_here 6 _law_many 7 _law_named 8 _law_turn -/
abbrev N__law_book : List Str := ["_law_well_here", "_law_most", "_law_longest", "_law_rows_here", "_law_rules", "_law_columns_here", "_law_many", "_law_named", "_law_turn"]
def w__law_book_6 : SS := (sSeq (sRet (wF sTup (aCons (wSlot 5) (aCons (wSlot 6) (aCons (wF sTuple (aCons (wSortIt (wSlot 7)) aNil)) aNil)))))
sNil)
def w__law_book_4 : SS := (sSeq (sFor (wRange1 (aCons (wCall 2 g__law_take (aCons (wSlot 0) (aCons (w2 (sAdd false) (wSlot 4) (wC (.int 1))) aNil))) aNil)) (gSlot 8)
 (sSeq (sAsg (gPut (wSlot 7) (wCall 1 g__law_word (aCons (wSlot 0) aNil))) (wCall 3 g__law_rule (aCons (wSlot 0) (aCons (wSlot 5) (aCons (wSlot 6) aNil)))))
sNil))
w__law_book_6)
def w__law_book_3 : SS := (sSeq (sAsg (gSlot 7) wNewD)
w__law_book_4)
def w__law_book_2 : SS := (sSeq (sAsg (gSlot 6) (wCall 2 g__law_take (aCons (wSlot 0) (aCons (w2 (sAdd false) (wSlot 3) (wC (.int 1))) aNil))))
w__law_book_3)
def w__law_book : SS := (sSeq (sAsg (gSlot 5) (wCall 3 g__law_columns (aCons (wSlot 0) (aCons (wSlot 1) (aCons (wSlot 2) aNil)))))
w__law_book_2)
theorem atI_last {ds : List D} (h : 1 ≤ ds.length) : ∃ d ∈ ds, atI ds (-1) = some d := by
  have hi : ds.length - 1 < ds.length := by omega
  refine ⟨ds[ds.length - 1], List.getElem_mem hi, ?_⟩
  unfold atI ixN
  rw [if_neg (by decide), if_pos (by omega), show ((-1 : Int) + (ds.length : Nat)).toNat = ds.length - 1 by omega]
  exact List.getElem?_eq_getElem hi
@[simp] theorem tyOf_kD0 (k : Key) : (tyOf (kD k)).isSome = true := by cases k <;> rfl
theorem tyOf_kD {M : Mem} (k : Key) : (tyOf (deref M (kD k))).isSome = true := tyOf_pure (pure_kD k)
theorem isTy_kD {M : Mem} (k : Key) : isTy M .int (kD k) = isNum k := by rw [isTy_pure (pure_kD k), isInt_kD]
theorem some_of {cs : List Col} {b : Str} {l : Nat} {c : Col} (hv : vals cs b = c.2) (g : GoodCol l c) (hl : l ≤ 8) {ys : List D} (h : ys.Sublist (c.2.map kD)) (h1 : 1 ≤ ys.length) : ∃ s, D.tup ys = keysT s ∧ GoodSome cs b s := by
  obtain ⟨s, hs, rfl⟩ := List.sublist_map_iff.mp h
  refine ⟨s, rfl, fun e => by rw [e] at h1; simp at h1, fun k hk => by rw [hv]; exact hs.subset hk, g.rise.sublist hs, ?_⟩
  have := hs.length_le
  have := g.most
  omega
theorem vals_nd {m l : Nat} {cs : List Col} (h : GoodCols m l cs) {c : Col} (hc : c ∈ cs) : vals cs c.1 = c.2 ∧ has cs c.1 := by
  obtain ⟨n, hn, rfl⟩ := List.mem_iff_getElem.mp hc
  refine ⟨?_, cs[n], hc, rfl⟩
  have h1 := valsOf_nd (cs := cs.map tcl) (by rw [List.map_map]; exact h.apart) (n := n) (by simpa using hn)
  have h2 : (vals cs cs[n].1).map kD = cs[n].2.map kD := by rw [← valsOf_t]; simpa [tcl] using h1
  exact (List.map_inj_right fun _ _ z => kD_inj z).mp h2
theorem p__law_rule : Imp g__law_rule (defW N__law_rule w__law_rule) := by
  intro ds M Q X h
  unfold g__law_rule at h
  split at h
  · rename_i a c many
    obtain ⟨cs, rfl, hm, hg, n0, n1, h⟩ := h
    have h1 := hg.some
    have h2 := hg.most
    have pick : ∀ i : Int, 0 ≤ i → i < cs.length → ∃ c ∈ cs, atI (cs.map fun c => D.tup [.str c.1, .tup (c.2.map kD)]) i = some (.tup [.str c.1, .tup (c.2.map kD)]) := fun i i0 i1 => by
      obtain ⟨d, hd, e⟩ := atI_pick (ds := cs.map fun c => D.tup [.str c.1, .tup (c.2.map kD)]) (i := i) i0 (by simpa using i1)
      obtain ⟨c, hc, rfl⟩ := List.mem_map.mp hd
      exact ⟨c, hc, e⟩
    have ecs : colsT cs = .tup (cs.map fun c => D.tup [.str c.1, .tup (c.2.map kD)]) := by
      unfold colsT colsD
      rw [List.map_map]; rfl
    rw [ecs]
    simp [↓defW, env0, ↓w__law_rule, hm]
    refine ⟨by omega, by omega, fun i i0 i1 => ?_⟩
    obtain ⟨⟨a1, v1⟩, hc1, e⟩ := pick i i0 i1
    refine ⟨_, e, ?_⟩
    clear i i0 i1 e
    simp [↓w__law_rule_1, hm]
    refine ⟨by omega, by omega, fun i i0 i1 => ?_⟩
    obtain ⟨⟨a2, v2⟩, hc2, e⟩ := pick i i0 i1
    refine ⟨_, e, ?_⟩
    clear i i0 i1 e
    have g1 := hg.each _ hc1
    have g2 := hg.each _ hc2
    obtain ⟨ev1, ha1⟩ := vals_nd hg hc1
    obtain ⟨ev2, ha2⟩ := vals_nd hg hc2
    have l1 := g1.some
    have l2 := g1.most
    have l3 := g2.some
    have l4 := g2.most
    simp only at l1 l2 l3 l4 ev1 ev2 ha1 ha2
    simp [↓w__law_rule_2, hm]
    refine ⟨by omega, by omega, fun i i0 i1 => ?_⟩
    obtain ⟨v, hv, e⟩ := atI_pick (ds := v1.map kD) (i := i) i0 (by simpa using i1)
    obtain ⟨kv, hkv, rfl⟩ := List.mem_map.mp hv
    refine ⟨_, e, ?_⟩
    clear i i0 i1 e hv
    simp [↓w__law_rule_3, hm]
    intro way y0 y1
    simp [↓w__law_rule_4, hm]
    refine ⟨n0, by omega, fun low high lh0 lh1 lh2 => ?_⟩
    replace h : ∀ (r : Rl) (d : D), d = rlD r → GoodRl cs many.toNat r → dropQ Q d M := fun r d e q => by rw [e]; exact dropQ.self (h r q)
    have num1 : nums cs a1 = isNum kv := (nums_of hg ha1 kv (by rw [ev1]; exact hkv)).symm
    have some1 : ∀ (ys : List D), ys.Sublist (v1.map kD) → 1 ≤ ys.length → ∃ s, D.tup ys = keysT s ∧ GoodSome cs a1 s := fun ys q1 q2 => some_of ev1 g1 (Nat.le_refl _) q1 q2
    have some2 : ∀ (ys : List D), ys.Sublist (v2.map kD) → 1 ≤ ys.length → ∃ s, D.tup ys = keysT s ∧ GoodSome cs a2 s := fun ys q1 q2 => some_of ev2 g2 (Nat.le_refl _) q1 q2
    have ev0 : ∀ {a : Str} {v : List Key}, (a, v) ∈ cs → ∃ k, k ∈ vals cs a ∧ atI (v.map kD) 0 = some (kD k) ∧ isNum k = nums cs a := fun {a v} hc => by
      have g := (hg.each _ hc).some
      obtain ⟨e1, e2⟩ := vals_nd hg hc
      simp only at g e1 e2
      cases v with
      | nil => simp at g
      | cons k r => exact ⟨k, by rw [e1]; exact List.mem_cons_self, atI_0, nums_of hg e2 _ (by rw [e1]; exact List.mem_cons_self)⟩
    have tail : w__law_rule_10 [some (D.ptr a), some (D.tup (cs.map fun c => D.tup [.str c.1, .tup (c.2.map kD)])), some (D.int many), some (kD kv), some (D.int way), some (D.str a1), some (D.tup (v1.map kD)), some (D.str a2), some (D.tup (v2.map kD)), some (D.int low), some (D.int high)] M (outP (dropQ Q) (dropQ X)) := by
      simp [↓w__law_rule_10, hm]
      refine iteI (fun _ => h (.rising a1) _ rfl ha1) (fun _ => ?_)
      simp [↓w__law_rule_11, hm]
      have hk : ∀ i : Int, 0 ≤ i → i < 3 → ∃ x, atI [D.tup [D.str (Str.ofString "key"), D.str a1], D.tup [D.str (Str.ofString "rising"), D.str a1], D.tup [D.str (Str.ofString "each"), D.str a1]] i = some x ∧ dropQ Q x M := by
        intro i i0 i1
        obtain ⟨d, hd, e⟩ := atI_pick (ds := [D.tup [D.str (Str.ofString "key"), D.str a1], D.tup [D.str (Str.ofString "rising"), D.str a1], D.tup [D.str (Str.ofString "each"), D.str a1]]) (i := i) i0 (by simp; omega)
        refine ⟨d, e, ?_⟩
        simp at hd
        rcases hd with rfl | rfl | rfl
        · exact h (.key a1) _ rfl ha1
        · exact h (.rising a1) _ rfl ha1
        · exact h (.each a1) _ rfl ha1
      by_cases hne : a1 = a2
      · rw [if_pos hne]; exact hk
      rw [if_neg hne]
      refine iteI (fun _ => hk) (fun _ => ?_)
      simp [↓w__law_rule_12, hm]
      refine iteI (fun _ => h (.lead a1 a2) _ rfl ⟨ha1, ha2, hne⟩) (fun _ => ?_)
      have t15 : nums cs a1 = nums cs a2 → w__law_rule_15 [some (D.ptr a), some (D.tup (cs.map fun c => D.tup [.str c.1, .tup (c.2.map kD)])), some (D.int many), some (kD kv), some (D.int way), some (D.str a1), some (D.tup (v1.map kD)), some (D.str a2), some (D.tup (v2.map kD)), some (D.int low), some (D.int high)] M (outP (dropQ Q) (dropQ X)) := fun hn => by
        simp [↓w__law_rule_15, hm]
        intro i i0 i1
        obtain ⟨d, hd, e⟩ := atI_pick (ds := [D.tup [D.str (Str.ofString "same"), D.str a1, D.str a2], D.tup [D.str (Str.ofString "apart"), D.str a1, D.str a2]]) (i := i) i0 (by simp; omega)
        refine ⟨d, e, ?_⟩
        simp at hd
        rcases hd with rfl | rfl
        · exact h (.same a1 a2) _ rfl ⟨ha1, ha2, hne, hn⟩
        · exact h (.apart a1 a2) _ rfl ⟨ha1, ha2, hne, hn⟩
      have t14 : nums cs a1 = nums cs a2 → w__law_rule_14 [some (D.ptr a), some (D.tup (cs.map fun c => D.tup [.str c.1, .tup (c.2.map kD)])), some (D.int many), some (kD kv), some (D.int way), some (D.str a1), some (D.tup (v1.map kD)), some (D.str a2), some (D.tup (v2.map kD)), some (D.int low), some (D.int high)] M (outP (dropQ Q) (dropQ X)) := fun hn => by
        simp [↓w__law_rule_14, hm, tyOf_pure, isTy_kD]
        refine iteI (fun _ => ?_) (fun _ => t15 hn)
        refine iteI (fun hi => ?_) (fun _ => t15 hn)
        refine h (.less a1 a2) _ rfl ⟨ha1, ha2, hne, ?_, ?_⟩
        · rw [num1]; exact hi
        · rw [← hn, num1]; exact hi
      have hif : ∀ (ys : List D), ys.Sublist (v2.map kD) → 1 ≤ ys.length → dropQ Q (D.tup [D.str (Str.ofString "if"), D.str a1, kD kv, D.str a2, D.tup ys]) M := fun ys q1 q2 => by
        obtain ⟨s, e, gs⟩ := some2 ys q1 q2
        rw [e]
        exact h (.iff a1 kv a2 s) _ rfl ⟨ha1, ha2, hne, by rw [ev1]; exact hkv, gs⟩
      simp [↓w__law_rule_13, hm]
      refine iteI (fun _ => ⟨l3, by omega, pures_kD _, deps_kD _, hif⟩) (fun _ => ?_)
      obtain ⟨k1, _, e1, n1'⟩ := ev0 hc1
      obtain ⟨k2, _, e2, n2'⟩ := ev0 hc2
      refine ⟨_, e1, tyOf_kD _, _, e2, tyOf_kD _, ?_⟩
      rw [isTy_kD, isTy_kD, n1', n2']
      refine iteI (fun e => t14 e) (fun _ => ⟨l3, by omega, pures_kD _, deps_kD _, hif⟩)
    simp [↓w__law_rule_5, hm]
    refine iteI (fun _ => ⟨l1, by omega, pures_kD _, deps_kD _, fun ys q1 q2 => ?_⟩) (fun _ => ?_)
    · obtain ⟨s, e, gs⟩ := some1 ys q1 q2
      rw [e]
      exact h (.only a1 s) _ rfl ⟨ha1, gs⟩
    have hsh : dropQ Q (D.tup [D.str (Str.ofString "share"), D.str a1, kD kv, D.int low, D.int high]) M := h (.share a1 kv low high) _ rfl ⟨ha1, by rw [ev1]; exact hkv, lh0, lh1, by omega⟩
    simp [↓w__law_rule_6, hm]
    refine iteI (fun _ => hsh) (fun _ => ?_)
    refine iteI (fun _ => hsh) (fun _ => ?_)
    simp [↓w__law_rule_7, hm]
    refine iteI (fun _ => h (.each a1) _ rfl ha1) (fun _ => ?_)
    have t9 : w__law_rule_9 [some (D.ptr a), some (D.tup (cs.map fun c => D.tup [.str c.1, .tup (c.2.map kD)])), some (D.int many), some (kD kv), some (D.int way), some (D.str a1), some (D.tup (v1.map kD)), some (D.str a2), some (D.tup (v2.map kD)), some (D.int low), some (D.int high)] M (outP (dropQ Q) (dropQ X)) := by
      simp [↓w__law_rule_9, hm, tyOf_pure, isTy_kD]
      refine iteI (fun _ => ?_) (fun _ => tail)
      refine iteI (fun hi => ?_) (fun _ => tail)
      obtain ⟨j, hj, j0, j1⟩ : ∃ j : Int, atI (v1.map kD) (-1) = some (.int j) ∧ 0 ≤ j ∧ j < 100 := by
        obtain ⟨d, hd, e⟩ := atI_last (ds := v1.map kD) (by simpa using l1)
        obtain ⟨k, hk, rfl⟩ := List.mem_map.mp hd
        rcases g1.homo with q | q
        · obtain ⟨i, rfl, i0, i1⟩ := q k hk
          exact ⟨i, e, i0, by omega⟩
        · obtain ⟨z, rfl, _⟩ := q kv hkv
          cases hi
      have b0 : 0 ≤ many * j := Int.mul_nonneg n0 j0
      have b1 : many * j ≤ 8 * 99 := Int.mul_le_mul n1 (by omega) j0 (by omega)
      have cm : CMul many j := .inl ⟨by omega, by omega⟩
      have cd : CDivW (many * j) 2 := ⟨by decide, by decide⟩
      refine ⟨_, hj, .inl cm, cd, by omega, by omega, fun x x0 x1 => ⟨_, hj, .inl cm, cd, by omega, by omega, fun y y0 y1 => h (.sum a1 x (x + y)) _ rfl ⟨ha1, by rw [num1]; exact hi, x0, by omega, by omega⟩⟩⟩
    simp [↓w__law_rule_8, hm]
    refine iteI (fun _ => ?_) (fun _ => t9)
    refine iteI (fun hpos => ?_) (fun _ => t9)
    refine ⟨hpos, by omega, fun x x0 x1 => h (.held x.toNat a1 kv) _ (by simp [rlD, rlW, rlP]; omega) ⟨ha1, by omega, by rw [ev1]; exact hkv⟩⟩
  · exact h.elim
theorem keyF_put {es : List (Str × D)} {z : Str} {d : D} : ∃ es' : List (Str × D), putD (es.map keyF) (.inr z) d = es'.map keyF ∧ es'.length ≤ es.length + 1 ∧ ∀ e ∈ es', e ∈ es ∨ e = (z, d) := by
  unfold putD
  split
  · refine ⟨es.map fun e => if e.1 = z then (e.1, d) else e, ?_, by simp, fun e he => ?_⟩
    · rw [List.map_map, List.map_map]
      refine List.map_congr_left fun e _ => ?_
      show (if (keyF e).1 = Sum.inr z then ((keyF e).1, d) else keyF e) = keyF (if e.1 = z then (e.1, d) else e)
      by_cases h : e.1 = z
      · rw [if_pos (by rw [← h]), if_pos h]
      · rw [if_neg (fun q => h (Sum.inr.inj q)), if_neg h]
    · obtain ⟨e0, h0, rfl⟩ := List.mem_map.mp he
      by_cases h : e0.1 = z
      · right; rw [if_pos h, h]
      · left; rw [if_neg h]; exact h0
  · refine ⟨es ++ [(z, d)], by rw [List.map_append]; rfl, by simp, fun e he => ?_⟩
    rcases List.mem_append.mp he with h | h
    · exact .inl h
    · exact .inr (by simpa using h)
theorem p__law_book : Imp g__law_book (defW N__law_book w__law_book) := by
  intro ds M Q X h
  unfold g__law_book at h
  split at h
  · rename_i a most longest rows rules
    obtain ⟨hm, m0, m1, l0, l1, r0, r1, u0, u1, h⟩ := h
    simp [↓defW, env0, ↓w__law_book, hm]
    refine ⟨m0, by omega, l0, by omega, fun cs0 hg0 => ?_⟩
    obtain ⟨cs, rfl, hg⟩ := GoodCs.typed (m := 3) (l := 8) (hg0.mono (by omega) (by omega))
    rw [show colsD (cs.map tcl) = colsT cs from rfl]
    simp [↓w__law_book_2, hm]
    refine ⟨by omega, by omega, fun many y0 y1 => ?_⟩
    simp [↓w__law_book_3]
    intro p hp
    have pa : a ≠ p := ne_new hp hm
    simp [↓w__law_book_4, hm, pa]
    refine ⟨by omega, by omega, fun n n0 n1 => ⟨by omega, by omega, ?_⟩⟩
    refine loopW_ind (fun i e mm => ∃ es s8, e = [some (D.ptr a), some (D.int most), some (D.int longest), some (D.int rows), some (D.int rules), some (colsT cs), some (D.int many), some (D.ptr p), s8] ∧ mm p = some (.md (es.map keyF)) ∧ Sub M mm ∧ es.length ≤ i ∧
      (∀ e ∈ es, GoodW e.1 ∧ ∃ r, e.2 = rlD r ∧ GoodRl cs many.toNat r) ∧ (es.map (·.1)).Nodup) ⟨[], _, rfl, put_same, Sub.refl.ext hp, Nat.le_refl _, fun _ z => (nomatch z), List.nodup_nil⟩ (fun _ _ _ _ => trivial) ?_ ?_
    · rintro e mm ⟨es, s8, rfl, mp, hs, hl, hall, hnd⟩
      rw [upFrom_len] at hl
      simp [↓w__law_book_6]
      refine ⟨es, mp, fun z r he => ?_, by omega, fun ys hperm hrise => ?_⟩
      · obtain ⟨_, r', e2, _⟩ := hall (z, r) he
        exact ⟨_, e2⟩
      have hall2 : ∀ e ∈ ys, GoodW e.1 ∧ ∃ r, e.2 = rlD r ∧ GoodRl cs many.toNat r := fun e he => hall e (hperm.mem_iff.mp he)
      have hnd2 := (hperm.map (·.1)).nodup_iff.mpr hnd
      obtain ⟨rs, ers, hrs⟩ : ∃ rs : List (Str × Rl), ys = rs.map (fun e => (e.1, rlD e.2)) ∧ ∀ e ∈ rs, GoodW e.1 ∧ GoodRl cs many.toNat e.2 := by
        clear hperm hrise hnd2
        induction ys with
        | nil => exact ⟨[], rfl, fun _ z => nomatch z⟩
        | cons e t ih =>
          obtain ⟨rs, e1, h1⟩ := ih fun e he => hall2 e (List.mem_cons_of_mem _ he)
          obtain ⟨hw, r, e2, hr⟩ := hall2 e List.mem_cons_self
          refine ⟨(e.1, r) :: rs, by rw [e1, List.map_cons, ← e2], fun e' he' => ?_⟩
          rcases List.mem_cons.mp he' with rfl | he'
          · exact ⟨hw, hr⟩
          · exact h1 e' he'
      have hlen : rs.length ≤ 12 := by
        have := congrArg List.length ers
        rw [List.length_map, hperm.length_eq] at this
        omega
      have hb := h ⟨cs, many.toNat, rs⟩ ⟨hg, by show many.toNat ≤ 8; omega, hlen, fun e he => (hrs e he).1, ?_, fun e he => (hrs e he).2⟩ (by show ((many.toNat : Nat) : Int) ≤ rows; omega)
      · have e2 : D.tup (ys.map fun e => D.tup [.str e.1, e.2]) = rulesT rs := by
          unfold rulesT
          rw [ers, List.map_map]; rfl
        have e3 : bkD ⟨cs, many.toNat, rs⟩ = D.tup [colsT cs, .int many, D.tup (ys.map fun e => D.tup [.str e.1, e.2])] := by
          rw [e2]
          unfold bkD
          rw [show ((many.toNat : Nat) : Int) = many by omega]
        rw [e3] at hb
        exact dropQ.sub hs hb
      · show rs.Pairwise fun e f => ltS e.1 f.1 = true
        rw [ers] at hrise hnd2
        rw [List.map_map] at hnd2
        have h1 := List.pairwise_map.mp hrise
        have h2 := List.pairwise_map.mp hnd2
        refine (List.Pairwise.and h1 h2).imp fun {e f} q => ?_
        rcases text_tri e.1 f.1 with z | z | z
        · exact decide_eq_true z
        · exact absurd z q.2
        · exact absurd z q.1
    · rintro i d e mm K hd ⟨es, s8, rfl, mp, hs, hl, hall, hnd⟩ hnx hct hbk hrt hxx
      have ma := hs _ _ hm
      have hi := (List.getElem?_eq_some_iff.mp hd).1
      rw [upFrom_len] at hi
      simp [ma, mp]
      refine ⟨hg, y0, by omega, fun r hr z hz => ?_⟩
      refine ⟨p, _, ⟨rfl, rfl⟩, .inr z, rfl, by rw [List.length_map]; omega, ?_⟩
      obtain ⟨es', e1, e2, e3⟩ := keyF_put (es := es) (z := z) (d := rlD r)
      have hnd2 : (es'.map (·.1)).Nodup := by
        have h1 : ((es.map keyF).map (·.1)).Nodup := by
          rw [List.map_map]
          exact List.pairwise_map.mpr ((List.pairwise_map.mp hnd).imp fun h e => h (Sum.inr.inj e))
        have h2 := putD_nd h1 (.inr z) (rlD r)
        rw [e1, List.map_map] at h2
        exact List.pairwise_map.mpr ((List.pairwise_map.mp h2).imp fun h e => h (congrArg Sum.inr e))
      rw [e1]
      refine hnx _ _ ⟨es', _, rfl, put_same, ?_, by omega, fun e he => ?_, hnd2⟩
      · exact hs.ext (by
          cases q : M p with
          | none => rfl
          | some m => rw [hp] at q; cases q)
      · rcases e3 e he with h5 | rfl
        · exact hall e h5
        · exact ⟨hz, r, rfl, hr⟩
  · exact h.elim
end FL
set_option Elab.async false
set_option linter.all false
set_option maxRecDepth 100000
set_option maxHeartbeats 400000
namespace FL
open PySem PySem.Spec PyProof.Rows L2 Evl
/-- a comprehension over plain things -/
theorem wLc_T {α : Type} {own : Bool} {wi : SI} {asg : Sl → D → Sl → Prop} {vs : List Nat} {tt : ST} {te : SE} {env : Sl} {M : Mem} {Q : QE} {X : QX} {l : List α} (g f : α → D) (c : α → Bool) (hi : ∀ R : QI, R (l.map g) (fun _ => True) M → wi env M R X) (hl : l.length ≤ 100000)
    (he : ∀ a ∈ l, ∃ env2, asg (wipeE env vs) (g a) env2 ∧ ∀ (M' : Mem), Sub M M' → (∀ (R : Bool → Mem → Prop), R (c a) M' → tt env2 M' R noX) ∧ (c a = true → ∀ (R : QE), R (f a) M' → te env2 M' R noX)) (hq : fresh own ((l.filter c).map f) M Q) : wLc own wi asg vs tt te env M Q X := by
  refine hi _ ⟨by rw [List.length_map]; exact hl, fun a0 ha => ?_⟩
  have go : ∀ (r : List α) (acc : List D), (∀ d ∈ r, d ∈ l) → lcEnd own a0 Q (acc ++ (r.filter c).map f) (put M a0 (.ml (acc ++ (r.filter c).map f))) → lcW asg vs tt te (fun _ => True) a0 env (r.map g) acc (put M a0 (.ml acc)) (lcEnd own a0 Q) := by
    intro r
    induction r with
    | nil => intro acc _ q; rw [List.filter_nil, List.map_nil, List.append_nil] at q; exact ⟨trivial, put_same, q⟩
    | cons d r ih =>
      intro acc hm q
      obtain ⟨env2, h1, h2⟩ := he d (hm d List.mem_cons_self)
      obtain ⟨h2, h3⟩ := h2 (put M a0 (.ml acc)) (Sub.new ha)
      rw [List.map_cons]
      refine ⟨trivial, env2, h1, h2 _ ?_⟩
      rw [List.filter_cons] at q
      cases hc : c d with
      | false => rw [hc] at q; exact ih _ (fun e he => hm e (List.mem_cons_of_mem _ he)) q
      | true =>
        rw [hc] at q
        refine h3 hc _ ⟨put_same, ?_⟩
        rw [put_put]
        exact ih _ (fun e he => hm e (List.mem_cons_of_mem _ he)) (by rw [List.append_assoc]; exact q)
  refine go l [] (fun d h => h) ?_
  cases own with
  | true => exact hq a0 ha
  | false =>
    show Q _ (erase _ a0)
    rw [erase_put ha]
    exact hq
theorem wLc_mapT {α : Type} {own : Bool} {wi : SI} {asg : Sl → D → Sl → Prop} {vs : List Nat} {te : SE} {env : Sl} {M : Mem} {Q : QE} {X : QX} {l : List α} (g f : α → D) (hi : ∀ R : QI, R (l.map g) (fun _ => True) M → wi env M R X) (hl : l.length ≤ 100000)
    (he : ∀ a ∈ l, ∃ env2, asg (wipeE env vs) (g a) env2 ∧ ∀ (M' : Mem), Sub M M' → ∀ (R : QE), R (f a) M' → te env2 M' R noX) (hq : fresh own (l.map f) M Q) : wLc own wi asg vs tTrue te env M Q X :=
  wLc_T g f (fun _ => true) hi hl (fun a ha => let ⟨e, h1, h2⟩ := he a ha; ⟨e, h1, fun M' s => ⟨fun R q => q, fun _ => h2 M' s⟩⟩) (by rw [List.filter_eq_self.mpr fun _ _ => rfl]; exact hq)
end FL
set_option Elab.async false
set_option linter.all false
namespace FL
/-! ### lists -/
theorem nd_sub {α : Type} [DecidableEq α] {x : α} {r b : List α} (h : (x :: r).Nodup) (s : ∀ y ∈ x :: r, y ∈ b) : x ∈ b ∧ ∀ y ∈ r, y ∈ b.erase x := by
  obtain ⟨h1, h2⟩ := List.nodup_cons.mp h
  refine ⟨s x List.mem_cons_self, fun y hy => ?_⟩
  have : y ≠ x := by rintro rfl; exact h1 hy
  exact (List.mem_erase_of_ne this).mpr (s y (List.mem_cons_of_mem _ hy))
theorem nd_le {α : Type} [DecidableEq α] : ∀ {a b : List α}, a.Nodup → (∀ x ∈ a, x ∈ b) → a.length ≤ b.length
  | [], _, _, _ => Nat.zero_le _
  | x :: r, b, h, s => by
    obtain ⟨h1, h2⟩ := nd_sub h s
    have := nd_le (List.nodup_cons.mp h).2 h2
    rw [List.length_erase_of_mem h1] at this
    have := List.length_pos_of_mem h1
    rw [List.length_cons]; omega
theorem nd_perm {α : Type} [DecidableEq α] : ∀ {a b : List α}, a.Nodup → (∀ x ∈ a, x ∈ b) → b.length ≤ a.length → a.Perm b
  | [], b, _, _, hl => by
    have : b = [] := List.length_eq_zero_iff.mp (by simpa using hl)
    rw [this]
  | x :: r, b, h, s, hl => by
    obtain ⟨h1, h2⟩ := nd_sub h s
    have := nd_perm (List.nodup_cons.mp h).2 h2 (by rw [List.length_erase_of_mem h1]; rw [List.length_cons] at hl; omega)
    exact (this.cons x).trans (List.perm_cons_erase h1).symm
theorem map_inj_nd {α β : Type} {f : α → β} : ∀ {l : List α}, (l.map f).Nodup → ∀ {a b : α}, a ∈ l → b ∈ l → f a = f b → a = b
  | [], _, _, _, h, _, _ => nomatch h
  | x :: l, hn, a, b, ha, hb, e => by
    rw [List.map_cons] at hn
    obtain ⟨h1, h2⟩ := List.nodup_cons.mp hn
    have nx : ∀ y ∈ l, f y ≠ f x := fun y hy q => h1 (q ▸ List.mem_map_of_mem hy)
    rcases List.mem_cons.mp ha with q1 | ha
    · rcases List.mem_cons.mp hb with q2 | hb
      · rw [q1, q2]
      · rw [q1] at e; exact absurd e.symm (nx b hb)
    · rcases List.mem_cons.mp hb with q2 | hb
      · rw [q2] at e; exact absurd e (nx a ha)
      · exact map_inj_nd h2 ha hb e
end FL
set_option Elab.async false
set_option linter.all false
set_option maxRecDepth 100000
set_option maxHeartbeats 400000
namespace FL
open PySem PySem.Spec PyProof.Rows L2 Evl
/-! ### what rows and tables keep -/
@[simp ↓] def g_row_keeps : Fn := fun ds M Q _ => match ds with
  | [c, r, row] => ∃ (cs : List Col) (many : Nat) (rl : Rl) (rw : Row), c = colsT cs ∧ r = rlD rl ∧ row = rowD rw ∧ GoodCols 3 8 cs ∧ GoodRl cs many rl ∧ isRowRl rl = true ∧ GoodRow cs rw ∧ Q (.bl (rowKeeps cs rw rl)) M
  | _ => False
@[simp ↓] def g_table_keeps : Fn := fun ds M Q _ => match ds with
  | [c, r, t] => ∃ (cs : List Col) (rl : Rl) (tb : List Row), c = colsT cs ∧ r = rlD rl ∧ t = tabD tb ∧ GoodCols 3 8 cs ∧ GoodRl cs tb.length rl ∧ tb.length ≤ 8 ∧ (∀ r ∈ tb, GoodRow cs r) ∧ Q (.bl (tabKeeps cs tb rl)) M
  | _ => False
def brokenT (b : Bk) (t : List Row) : List Str := (b.rules.filter fun e => !tabKeeps b.cols t e.2).map (·.1)
@[simp ↓] def g_broken : Fn := fun ds M Q _ => match ds with
  | [b, t] => ∃ (bk : Bk) (tb : List Row), b = bkD bk ∧ t = tabD tb ∧ GoodBk bk ∧ tb.length = bk.many ∧ (∀ r ∈ tb, GoodRow bk.cols r) ∧ ∀ a, M a = none → Q (.ptr a) (put M a (.ml ((brokenT bk tb).map .str)))
  | _ => False
/- row_keeps: 0 columns 1 rule 2 row 3 here 4 there -/
abbrev N_row_keeps : List Str := ["columns", "rule", "row", "here", "there"]
def w_row_keeps : SS := (sSeq (sAsg (gSlot 3) (w2 sSub1 (wSlot 2) (wCall 2 g_spot_of (aCons (wSlot 0) (aCons (w2 sSub1 (wSlot 1) (wC (.int 1))) aNil)))))
(sSeq (sIf (wTest (w2 (sEq false) (w2 sSub1 (wSlot 1) (wC (.int 0))) (wC (.str "only"))))
 (sSeq (sRet (w2 (sInD false) (wSlot 3) (w2 sSub1 (wSlot 1) (wC (.int 2)))))
sNil)
 sNil)
(sSeq (sIf (wTest (w2 (sEq false) (w2 sSub1 (wSlot 1) (wC (.int 0))) (wC (.str "if"))))
 (sSeq (sRet (wOr (w2 (sEq true) (wSlot 3) (w2 sSub1 (wSlot 1) (wC (.int 2)))) (w2 (sInD false) (w2 sSub1 (wSlot 2) (wCall 2 g_spot_of (aCons (wSlot 0) (aCons (w2 sSub1 (wSlot 1) (wC (.int 3))) aNil)))) (w2 sSub1 (wSlot 1) (wC (.int 4))))))
sNil)
 sNil)
(sSeq (sAsg (gSlot 4) (w2 sSub1 (wSlot 2) (wCall 2 g_spot_of (aCons (wSlot 0) (aCons (w2 sSub1 (wSlot 1) (wC (.int 2))) aNil)))))
(sSeq (sIf (wTest (w2 (sEq false) (w2 sSub1 (wSlot 1) (wC (.int 0))) (wC (.str "less"))))
 (sSeq (sRet (w2 sLt (wSlot 3) (wSlot 4)))
sNil)
 sNil)
(sSeq (sRet (w2 (sEq false) (w2 (sEq false) (wSlot 3) (wSlot 4)) (w2 (sEq false) (w2 sSub1 (wSlot 1) (wC (.int 0))) (wC (.str "same")))))
sNil))))))
/- table_keeps: 0 columns 1 rule 2 table 3 told 4 other 5 row 6 value -/
abbrev N_table_keeps : List Str := ["columns", "rule", "table", "told", "other", "row", "value"]
def w_table_keeps : SS := (sSeq (sIf (wTest (w2 (sInD false) (w2 sSub1 (wSlot 1) (wC (.int 0))) (wC (.tup [.str "less", .str "same", .str "apart", .str "if", .str "only"]))))
 (sSeq (sRet (wF sAll (aCons (wLc false (wIt (wSlot 2)) (asT1 5) [5] tTrue (wCall 3 g_row_keeps (aCons (wSlot 0) (aCons (wSlot 1) (aCons (wSlot 5) aNil))))) aNil)))
sNil)
 sNil)
(sSeq (sIf (wTest (w2 (sEq false) (w2 sSub1 (wSlot 1) (wC (.int 0))) (wC (.str "held"))))
 (sSeq (sRet (w2 (sEq false) (w2 sSub1 (w2 sSub1 (wSlot 2) (w2 sSub1 (wSlot 1) (wC (.int 1)))) (wCall 2 g_spot_of (aCons (wSlot 0) (aCons (w2 sSub1 (wSlot 1) (wC (.int 2))) aNil)))) (w2 sSub1 (wSlot 1) (wC (.int 3)))))
sNil)
 sNil)
(sSeq (sAsg (gSlot 3) (wLc false (wIt (wSlot 2)) (asT1 5) [5] tTrue (w2 sSub1 (wSlot 5) (wCall 2 g_spot_of (aCons (wSlot 0) (aCons (w2 sSub1 (wSlot 1) (wC (.int 1))) aNil))))))
(sSeq (sIf (wTest (w2 (sEq false) (w2 sSub1 (wSlot 1) (wC (.int 0))) (wC (.str "key"))))
 (sSeq (sRet (w2 (sEq false) (wLenSet (wSlot 3)) (wF sLen (aCons (wSlot 3) aNil))))
sNil)
 sNil)
(sSeq (sIf (wTest (w2 (sEq false) (w2 sSub1 (wSlot 1) (wC (.int 0))) (wC (.str "rising"))))
 (sSeq (sRet (w2 (sEq false) (wSlot 3) (wF (sSortedA false) (aCons (wSlot 3) aNil))))
sNil)
 sNil)
(sSeq (sIf (wTest (w2 (sEq false) (w2 sSub1 (wSlot 1) (wC (.int 0))) (wC (.str "sum"))))
 (sSeq (sRet (w3 sLe sLe (w2 sSub1 (wSlot 1) (wC (.int 2))) (wF sSum (aCons (wSlot 3) aNil)) (w2 sSub1 (wSlot 1) (wC (.int 3)))))
sNil)
 sNil)
(sSeq (sIf (wTest (w2 (sEq false) (w2 sSub1 (wSlot 1) (wC (.int 0))) (wC (.str "share"))))
 (sSeq (sRet (w3 sLe sLe (w2 sSub1 (wSlot 1) (wC (.int 3))) (wM "list" mCount (wSlot 3) (aCons (w2 sSub1 (wSlot 1) (wC (.int 2))) aNil)) (w2 sSub1 (wSlot 1) (wC (.int 4)))))
sNil)
 sNil)
(sSeq (sIf (wTest (w2 (sEq false) (w2 sSub1 (wSlot 1) (wC (.int 0))) (wC (.str "each"))))
 (sSeq (sRet (wF sAll (aCons (wLc false (wIt (wCall 2 g_values_of (aCons (wSlot 0) (aCons (w2 sSub1 (wSlot 1) (wC (.int 1))) aNil)))) (asT1 6) [6] tTrue (w2 (sInD false) (wSlot 6) (wSlot 3))) aNil)))
sNil)
 sNil)
(sSeq (sAsg (gSlot 4) (wLc false (wIt (wSlot 2)) (asT1 5) [5] tTrue (w2 sSub1 (wSlot 5) (wCall 2 g_spot_of (aCons (wSlot 0) (aCons (w2 sSub1 (wSlot 1) (wC (.int 2))) aNil))))))
(sSeq (sRet (w2 (sEq false) (wLenSetZ (aCons (wSlot 3) (aCons (wSlot 4) aNil))) (wLenSet (wSlot 3))))
sNil))))))))))
/- broken: 0 book 1 table 2 name 3 rule -/
abbrev N_broken : List Str := ["book", "table", "name", "rule"]
def w_broken : SS := (sSeq (sExpr (wCall 2 g_need_table (aCons (wSlot 0) (aCons (wSlot 1) aNil))))
(sSeq (sRet (wLc true (wIt (w2 sSub1 (wSlot 0) (wC (.int 2)))) (asT [2, 3]) [2, 3] (tNot (wTest (wCall 3 g_table_keeps (aCons (w2 sSub1 (wSlot 0) (wC (.int 0))) (aCons (wSlot 3) (aCons (wSlot 1) aNil)))))) (wSlot 2)))
sNil))
@[simp] theorem kD_inl {i : Int} : kD (.inl i) = .int i := rfl
@[simp] theorem kD_inr {i : Str} : kD (.inr i) = .str i := rfl
theorem cell_num {cs : List Col} (hc : GoodCols 3 8 cs) {r : Row} (hr : GoodRow cs r) {a : Str} (ha : has cs a) (hn : nums cs a = true) : ∃ i : Int, cell cs r a = .inl i ∧ 0 ≤ i ∧ i ≤ 99 := by
  obtain ⟨_, hm⟩ := cell_get hr ha
  obtain ⟨c, hcm, _, ev, g⟩ := hc.vals ha
  have hk := nums_of hc ha _ hm
  rw [hn] at hk
  rw [ev] at hm
  rcases g.homo with q | q
  · exact q _ hm
  · obtain ⟨z, e, _⟩ := q _ hm
    rw [e] at hk; cases hk
theorem cell_txt {cs : List Col} (hc : GoodCols 3 8 cs) {r : Row} (hr : GoodRow cs r) {a : Str} (ha : has cs a) (hn : nums cs a = false) : ∃ z, cell cs r a = .inr z ∧ GoodW z := by
  obtain ⟨_, hm⟩ := cell_get hr ha
  obtain ⟨c, hcm, _, ev, g⟩ := hc.vals ha
  have hk := nums_of hc ha _ hm
  rw [hn] at hk
  rw [ev] at hm
  rcases g.homo with q | q
  · obtain ⟨z, e, _⟩ := q _ hm
    rw [e] at hk; cases hk
  · exact q _ hm
theorem inD_keysT {k : Key} {s : List Key} : inD (kD k) (s.map kD) = decide (k ∈ s) := inD_kD k s
theorem flats_kD (s : List Key) : (s.map kD).all flatD = true := by
  rw [List.all_map, List.all_eq_true]
  intro k _
  exact flatD_kD k
theorem p_row_keeps : Imp g_row_keeps (defW N_row_keeps w_row_keeps) := by
  intro ds M Q X h
  unfold g_row_keeps at h
  split at h
  · obtain ⟨cs, many, rl, rw, rfl, rfl, rfl, hg, hr, hrow, hrr, h⟩ := h
    replace h := dropQ.self h
    cases rl <;> first | (cases hrow; done) | skip
    case less a b =>
      obtain ⟨ha, hb, _, hn1, hn2⟩ := hr
      obtain ⟨i, ei, _⟩ := cell_num hg hrr ha hn1
      obtain ⟨j, ej, _⟩ := cell_num hg hrr hb hn2
      simp [rowKeeps, ei, ej, ltK] at h
      simp [↓defW, env0, ↓w_row_keeps, colsT, rlD, rlW, rlP, rowD, hasCol_t.mpr ha, hasCol_t.mpr hb, atI_cell hrr ha, atI_cell hrr hb, ei, ej]
      exact h
    case same a b =>
      obtain ⟨ha, hb, _⟩ := hr
      simp [rowKeeps] at h
      simp [↓defW, env0, ↓w_row_keeps, colsT, rlD, rlW, rlP, rowD, hasCol_t.mpr ha, hasCol_t.mpr hb, atI_cell hrr ha, atI_cell hrr hb]
      exact h
    case apart a b =>
      obtain ⟨ha, hb, _⟩ := hr
      simp [rowKeeps] at h
      simp [↓defW, env0, ↓w_row_keeps, colsT, rlD, rlW, rlP, rowD, hasCol_t.mpr ha, hasCol_t.mpr hb, atI_cell hrr ha, atI_cell hrr hb]
      exact h
    case iff a v b s =>
      obtain ⟨ha, hb, _, hv, hs⟩ := hr
      simp [rowKeeps] at h
      simp [↓defW, env0, ↓w_row_keeps, colsT, rlD, rlW, rlP, rowD, keysT, hasCol_t.mpr ha, hasCol_t.mpr hb, atI_cell hrr ha, atI_cell hrr hb]
      exact h
    case only a s =>
      obtain ⟨ha, hs⟩ := hr
      simp [rowKeeps] at h
      simp [↓defW, env0, ↓w_row_keeps, colsT, rlD, rlW, rlP, rowD, keysT, hasCol_t.mpr ha, atI_cell hrr ha]
      exact h
  · exact h.elim
theorem dedK_nd {ks : List Key} : decide (((dedK ks).length : Int) = (ks.length : Int)) = decide ks.Nodup := by
  rw [decide_eq_decide]
  exact ⟨fun h => dedK_nodup (by omega), fun h => by rw [dedK_of_nodup h]⟩
theorem eqDs_kD : ∀ {a b : List Key}, eqDs (a.map kD) (b.map kD) = decide (a = b)
  | [], [] => rfl
  | [], _ :: _ => rfl
  | _ :: _, [] => rfl
  | x :: a, y :: b => by
    rw [List.map_cons, List.map_cons, eqDs_cons, eqD_kD, eqDs_kD, Bool.eq_iff_iff]
    simp
theorem sortedI_uniq {a b : List Int} (p : b.Perm a) (h : b.Pairwise (· ≤ ·)) : a = b ↔ a.Pairwise (· ≤ ·) := by
  refine ⟨fun e => e ▸ h, fun g => ?_⟩
  exact List.Perm.eq_of_pairwise (le := fun x y : Int => x ≤ y) (fun x y _ _ h1 h2 => by omega) g h p.symm
theorem sortedS_uniq {a b : List Str} (p : b.Perm a) (h : b.Pairwise fun x y => ¬ y.cps.toList < x.cps.toList) : a = b ↔ a.Pairwise fun x y => ¬ y.cps.toList < x.cps.toList := by
  refine ⟨fun e => e ▸ h, fun g => ?_⟩
  refine List.Perm.eq_of_pairwise (le := fun x y : Str => ¬ y.cps.toList < x.cps.toList) (fun x y _ _ h1 h2 => ?_) g h p.symm
  rcases text_tri x y with q | q | q
  · exact absurd q h2
  · exact q
  · exact absurd q h1
theorem told_all {cs : List Col} (hc : GoodCols 3 8 cs) {t : List Row} (ht : ∀ r ∈ t, GoodRow cs r) {a : Str} (ha : has cs a) : (nums cs a = true ∧ ∃ ns : List Int, told cs t a = ns.map .inl ∧ ∀ n ∈ ns, 0 ≤ n ∧ n ≤ 99) ∨ (nums cs a = false ∧ ∃ zs : List Str, told cs t a = zs.map .inr) := by
  unfold told
  cases hn : nums cs a with
  | true =>
    refine .inl ⟨rfl, ?_⟩
    induction t with
    | nil => exact ⟨[], rfl, fun _ z => nomatch z⟩
    | cons r t ih =>
      obtain ⟨ns, e, h⟩ := ih fun r hr => ht r (List.mem_cons_of_mem _ hr)
      obtain ⟨i, ei, h0, h1⟩ := cell_num hc (ht r List.mem_cons_self) ha hn
      refine ⟨i :: ns, by rw [List.map_cons, List.map_cons, e, ei], fun n hn => ?_⟩
      rcases List.mem_cons.mp hn with rfl | hn
      · exact ⟨h0, h1⟩
      · exact h n hn
  | false =>
    refine .inr ⟨rfl, ?_⟩
    induction t with
    | nil => exact ⟨[], rfl⟩
    | cons r t ih =>
      obtain ⟨ns, e⟩ := ih fun r hr => ht r (List.mem_cons_of_mem _ hr)
      obtain ⟨i, ei, _⟩ := cell_txt hc (ht r List.mem_cons_self) ha hn
      exact ⟨i :: ns, by rw [List.map_cons, List.map_cons, e, ei]⟩
theorem told_rising_I {ns : List Int} : decide ((ns.map Sum.inl : List Key).Pairwise fun x y => ltK y x = false) = decide (ns.Pairwise (· ≤ ·)) := by
  rw [decide_eq_decide, List.pairwise_map]
  have : ∀ x y : Int, ltK (.inl y) (.inl x) = false ↔ x ≤ y := fun x y => by show decide (y < x) = false ↔ _; simp
  exact ⟨fun h => h.imp fun q => (this _ _).mp q, fun h => h.imp fun q => (this _ _).mpr q⟩
theorem told_rising_S {ns : List Str} : decide ((ns.map Sum.inr : List Key).Pairwise fun x y => ltK y x = false) = decide (ns.Pairwise fun x y => ¬ y.cps.toList < x.cps.toList) := by
  rw [decide_eq_decide, List.pairwise_map]
  have : ∀ x y : Str, ltK (.inr y) (.inr x) = false ↔ ¬ y.cps.toList < x.cps.toList := fun x y => by show decide (y.cps.toList < x.cps.toList) = false ↔ _; simp
  exact ⟨fun h => h.imp fun q => (this _ _).mp q, fun h => h.imp fun q => (this _ _).mpr q⟩
theorem sum_numK {ns : List Int} : ((ns.map Sum.inl : List Key).map numK).sum = ns.sum := by
  rw [List.map_map]
  congr 1
  conv => rhs; rw [← List.map_id ns]
  rfl
theorem sSum_kD {ns : List Int} {Q : QE} {M : Mem} : sSum [.lst (ns.map D.int)] M Q = Q (.int ns.sum) M := by
  have := sSum_ints (l := ns) (f := id) (Q := Q) (M := M)
  rw [List.map_id] at this
  exact this
theorem dedT_mem {T : Type} [DecidableEq T] : ∀ {ks : List T} {k : T}, k ∈ dedT ks ↔ k ∈ ks := by
  intro ks
  have go : ∀ (ks l : List T) (k : T), k ∈ ks.foldl addT l ↔ k ∈ l ∨ k ∈ ks := by
    intro ks
    induction ks with
    | nil => intro l k; simp
    | cons a r ih =>
      intro l k
      rw [List.foldl_cons, ih]
      unfold addT
      split
      · rename_i h
        constructor
        · rintro (q | q)
          · exact .inl q
          · exact .inr (List.mem_cons_of_mem _ q)
        · rintro (q | q)
          · exact .inl q
          · rcases List.mem_cons.mp q with rfl | q
            · exact .inl h
            · exact .inr q
      · simp [or_assoc]
  intro k
  have := go ks [] k
  simpa [dedT] using this
theorem dedT_nd {T : Type} [DecidableEq T] (ks : List T) : (dedT ks).Nodup := by
  have go : ∀ (ks l : List T), l.Nodup → (ks.foldl addT l).Nodup := by
    intro ks
    induction ks with
    | nil => intro l h; exact h
    | cons a r ih =>
      intro l h
      rw [List.foldl_cons]
      refine ih _ ?_
      unfold addT
      split
      · exact h
      · rename_i hn
        rw [List.nodup_append]
        exact ⟨h, by simp, fun x hx y hy => by rw [List.mem_singleton.mp hy]; rintro rfl; exact hn hx⟩
  exact go ks [] List.nodup_nil
theorem dedK_mem {ks : List Key} {k : Key} : k ∈ dedK ks ↔ k ∈ ks := by
  have go : ∀ (ks l : List Key) (k : Key), k ∈ ks.foldl stepK l ↔ k ∈ l ∨ k ∈ ks := by
    intro ks
    induction ks with
    | nil => intro l k; simp
    | cons a r ih =>
      intro l k
      rw [List.foldl_cons, ih]
      unfold stepK
      split
      · rename_i h
        obtain ⟨x, hx, e⟩ := List.any_eq_true.mp h
        have e := of_decide_eq_true e
        constructor
        · rintro (q | q)
          · exact .inl q
          · exact .inr (List.mem_cons_of_mem _ q)
        · rintro (q | q)
          · exact .inl q
          · rcases List.mem_cons.mp q with rfl | q
            · exact .inl (e ▸ hx)
            · exact .inr q
      · simp [or_assoc]
  have := go ks [] k
  simpa [dedK] using this
theorem dedK_ndup (ks : List Key) : (dedK ks).Nodup := by
  have go : ∀ (ks l : List Key), l.Nodup → (ks.foldl stepK l).Nodup := by
    intro ks
    induction ks with
    | nil => intro l h; exact h
    | cons a r ih =>
      intro l h
      rw [List.foldl_cons]
      refine ih _ ?_
      unfold stepK
      split
      · exact h
      · rename_i hn
        rw [List.nodup_append]
        refine ⟨h, by simp, fun x hx y hy => ?_⟩
        rw [List.mem_singleton.mp hy]
        rintro rfl
        exact hn (List.any_eq_true.mpr ⟨x, hx, decide_eq_true rfl⟩)
  exact go ks [] List.nodup_nil
theorem lead_len {α : Type} (f g : α → Key) (t : List α) : ((dedT (List.zipWith (fun a b => [a, b]) (t.map f) (t.map g))).length = (dedK (t.map f)).length) ↔ ∀ r ∈ t, ∀ q ∈ t, f r = f q → g r = g q := by
  have ez : List.zipWith (fun a b => [a, b]) (t.map f) (t.map g) = t.map fun r => [f r, g r] := by
    rw [List.zipWith_map_left, List.zipWith_map_right, List.zipWith_self]
  rw [ez]
  have hA := dedT_nd (t.map fun r => [f r, g r])
  have hB := dedK_ndup (t.map f)
  have hsub : (dedT (t.map fun r => [f r, g r])).map (fun p => p.headD (.inl 0)) ⊆ dedK (t.map f) := by
    intro k hk
    obtain ⟨p, hp, rfl⟩ := List.mem_map.mp hk
    obtain ⟨r, hr, rfl⟩ := List.mem_map.mp (dedT_mem.mp hp)
    exact dedK_mem.mpr (List.mem_map.mpr ⟨r, hr, rfl⟩)
  have hsup : dedK (t.map f) ⊆ (dedT (t.map fun r => [f r, g r])).map (fun p => p.headD (.inl 0)) := by
    intro k hk
    obtain ⟨r, hr, rfl⟩ := List.mem_map.mp (dedK_mem.mp hk)
    exact List.mem_map.mpr ⟨[f r, g r], dedT_mem.mpr (List.mem_map.mpr ⟨r, hr, rfl⟩), rfl⟩
  constructor
  · intro e r hr q hq hf
    have hnd : ((dedT (t.map fun r => [f r, g r])).map (fun p => p.headD (.inl 0))).Nodup := by
      exact (nd_perm hB (fun x hx => hsup hx) (by rw [List.length_map, e]; exact Nat.le_refl _)).nodup_iff.mp hB
    have m1 : [f r, g r] ∈ dedT (t.map fun r => [f r, g r]) := dedT_mem.mpr (List.mem_map.mpr ⟨r, hr, rfl⟩)
    have m2 : [f q, g q] ∈ dedT (t.map fun r => [f r, g r]) := dedT_mem.mpr (List.mem_map.mpr ⟨q, hq, rfl⟩)
    have := map_inj_nd hnd m1 m2 hf
    simpa using (List.cons.inj (List.cons.inj this).2).1
  · intro hl
    have hnd : ((dedT (t.map fun r => [f r, g r])).map (fun p => p.headD (.inl 0))).Nodup := by
      refine (List.pairwise_map).mpr (hA.imp_of_mem fun {x y} hx hy hne e => hne ?_)
      obtain ⟨r, hr, rfl⟩ := List.mem_map.mp (dedT_mem.mp hx)
      obtain ⟨q, hq, rfl⟩ := List.mem_map.mp (dedT_mem.mp hy)
      have e : f r = f q := e
      show [f r, g r] = [f q, g q]
      rw [e, hl r hr q hq e]
    have h1 := nd_le hnd fun x hx => hsub hx
    have h2 := nd_le hB fun x hx => hsup hx
    rw [List.length_map] at h1 h2
    omega
theorem atI_tab {t : List Row} {p : Nat} (h : p < t.length) : atI (t.map rowD) (p : Int) = some (rowD (rowAt t p)) := atI_nat (by
  rw [List.getElem?_map, List.getElem?_eq_getElem h, rowAt, List.getD_eq_getElem?_getD, List.getElem?_eq_getElem h]; rfl)
theorem getD_row {cs : List Col} {t : List Row} {p : Nat} (h : p < t.length) (ht : ∀ r ∈ t, GoodRow cs r) : GoodRow cs (rowAt t p) := by
  rw [rowAt, List.getD_eq_getElem?_getD, List.getElem?_eq_getElem h]
  exact ht _ (List.getElem_mem h)
theorem p_table_keeps : Imp g_table_keeps (defW N_table_keeps w_table_keeps) := by
  intro ds M Q X h
  unfold g_table_keeps at h
  split at h
  · obtain ⟨cs, rl, tb, rfl, rfl, rfl, hg, hr, hl, ht, h⟩ := h
    replace h := dropQ.self h
    have rows : isRowRl rl = true → (∀ t, tabKeeps cs t rl = t.all fun row => rowKeeps cs row rl) → defW N_table_keeps w_table_keeps [colsT cs, rlD rl, tabD tb] M (dropQ Q) (dropQ X) := fun hrow e => by
      rw [e] at h
      have hw : inD (.str (rlW rl)) [.str "less", .str "same", .str "apart", .str "if", .str "only"] = true := by cases rl <;> first | (cases hrow; done) | (simp [rlW])
      obtain ⟨ps, eps⟩ : ∃ ps, rlD rl = .tup (.str (rlW rl) :: ps) := ⟨_, rfl⟩
      rw [eps]
      simp [↓defW, env0, ↓w_table_keeps, tabD]
      simp at hw
      rw [if_pos (by rcases hw with q | q | q | q | q <;> simp [q])]
      refine wLc_mapT (l := tb) rowD (fun r => .bl (rowKeeps cs r rl)) (fun R q => by simpa using q) (by omega) (fun r hrm => ⟨_, rfl, fun M' hs R q => ?_⟩) ?_
      · simp [wipeE]
        exact ⟨tb.length, rl, eps.symm, hg, hr, hrow, ht r hrm, q⟩
      · simp
        exact h
    have toldE : ∀ a, tb.map (fun r => kD (cell cs r a)) = (told cs tb a).map kD := fun a => by unfold told; rw [List.map_map]; rfl
    have kk : ∀ l : List Key, List.map (keyOf ∘ kD) l = l.map some := fun l => by rw [← List.map_map]; exact keys_kD l
    have tl : ∀ a, (told cs tb a).length = tb.length := fun a => by unfold told; rw [List.length_map]
    cases rl <;> first | exact rows rfl (fun _ => rfl) | skip
    case seen a => exact hr.elim
    case held p a v =>
      obtain ⟨ha, hp, hv⟩ := hr
      simp [tabKeeps] at h
      simp [↓defW, env0, ↓w_table_keeps, colsT, rlD, rlW, rlP, tabD, hasCol_t.mpr ha, atI_tab hp]
      simp [rowD, atI_cell (getD_row hp ht) ha]
      exact h
    case key a =>
      have ha : has cs a := hr
      simp [tabKeeps] at h
      simp [↓defW, env0, ↓w_table_keeps, colsT, rlD, rlW, rlP, tabD]
      refine wLc_mapT (l := tb) rowD (fun r => kD (cell cs r a)) (fun R q => by simpa using q) (by omega) (fun r hrm => ⟨_, rfl, fun M' hs R q => ?_⟩) ?_
      · simp [wipeE, hasCol_t.mpr ha, rowD, atI_cell (ht r hrm) ha]; exact q
      · rw [toldE]
        simp
        refine ⟨_, by rw [← List.map_map]; exact keys_kD _, by rw [tl]; omega, ?_⟩
        rw [dedK_nd]
        exact h
    case rising a =>
      have ha : has cs a := hr
      simp [tabKeeps] at h
      simp [↓defW, env0, ↓w_table_keeps, colsT, rlD, rlW, rlP, tabD]
      refine wLc_mapT (l := tb) rowD (fun r => kD (cell cs r a)) (fun R q => by simpa using q) (by omega) (fun r hrm => ⟨_, rfl, fun M' hs R q => ?_⟩) ?_
      · simp [wipeE, hasCol_t.mpr ha, rowD, atI_cell (ht r hrm) ha]; exact q
      · rw [toldE]
        have hp : pures ((told cs tb a).map kD) = true := pures_kD _
        rcases told_all hg ht ha with ⟨_, ns, e, _⟩ | ⟨_, zs, e⟩
        · have hlen : ns.length = tb.length := by have := tl a; rw [e, List.length_map] at this; exact this
          rw [e, told_rising_I] at h
          rw [e] at hp ⊢
          simp
          refine .inr (.inl ⟨ns, rfl, fun ys p srt => ⟨?_, ?_⟩⟩)
          · have : deps (List.map (kD ∘ Sum.inl) ns) ≤ 60 := by rw [← List.map_map]; exact deps_kD _
            omega
          · have e2 : eqDs (List.map (kD ∘ Sum.inl) ns) (List.map D.int ys) = decide (ns.Pairwise (· ≤ ·)) := by
              rw [show List.map (kD ∘ Sum.inl) ns = (ns.map Sum.inl).map kD by rw [List.map_map], show List.map D.int ys = (ys.map Sum.inl).map kD by rw [List.map_map]; rfl, eqDs_kD, decide_eq_decide, ← sortedI_uniq p srt]
              exact List.map_inj_right fun _ _ z => Sum.inl.inj z
            rw [e2]
            exact h
        · have hlen : zs.length = tb.length := by have := tl a; rw [e, List.length_map] at this; exact this
          rw [e, told_rising_S] at h
          rw [e] at hp ⊢
          simp
          refine .inl ⟨zs, rfl, by omega, fun ys p srt => ⟨?_, ?_⟩⟩
          · have : deps (List.map (kD ∘ Sum.inr) zs) ≤ 60 := by rw [← List.map_map]; exact deps_kD _
            omega
          · have e2 : eqDs (List.map (kD ∘ Sum.inr) zs) (List.map D.str ys) = decide (zs.Pairwise fun x y => ¬ y.cps.toList < x.cps.toList) := by
              rw [show List.map (kD ∘ Sum.inr) zs = (zs.map Sum.inr).map kD by rw [List.map_map], show List.map D.str ys = (ys.map Sum.inr).map kD by rw [List.map_map]; rfl, eqDs_kD, decide_eq_decide, ← sortedS_uniq p (sortedS_pair srt)]
              exact List.map_inj_right fun _ _ z => Sum.inr.inj z
            rw [e2]
            exact h
    case sum a lo hi =>
      obtain ⟨ha, hn, _⟩ := hr
      simp [tabKeeps] at h
      simp [↓defW, env0, ↓w_table_keeps, colsT, rlD, rlW, rlP, tabD]
      refine wLc_mapT (l := tb) rowD (fun r => kD (cell cs r a)) (fun R q => by simpa using q) (by omega) (fun r hrm => ⟨_, rfl, fun M' hs R q => ?_⟩) ?_
      · simp [wipeE, hasCol_t.mpr ha, rowD, atI_cell (ht r hrm) ha]; exact q
      · rw [toldE]
        rcases told_all hg ht ha with ⟨_, ns, e, _⟩ | ⟨z, _⟩
        · rw [e, sum_numK] at h
          rw [e, List.map_map, show (kD ∘ Sum.inl) = D.int from rfl]
          simp [sSum_kD]
          simpa using h
        · rw [hn] at z; cases z
    case share a v lo hi =>
      obtain ⟨ha, hv, _⟩ := hr
      simp [tabKeeps] at h
      simp [↓defW, env0, ↓w_table_keeps, colsT, rlD, rlW, rlP, tabD]
      refine wLc_mapT (l := tb) rowD (fun r => kD (cell cs r a)) (fun R q => by simpa using q) (by omega) (fun r hrm => ⟨_, rfl, fun M' hs R q => ?_⟩) ?_
      · simp [wipeE, hasCol_t.mpr ha, rowD, atI_cell (ht r hrm) ha]; exact q
      · rw [toldE]
        simp
        exact ⟨_, kk _, h⟩
    case each a =>
      have ha : has cs a := hr
      simp [tabKeeps] at h
      simp [↓defW, env0, ↓w_table_keeps, colsT, rlD, rlW, rlP, tabD]
      refine wLc_mapT (l := tb) rowD (fun r => kD (cell cs r a)) (fun R q => by simpa using q) (by omega) (fun r hrm => ⟨_, rfl, fun M' hs R q => ?_⟩) ?_
      · simp [wipeE, hasCol_t.mpr ha, rowD, atI_cell (ht r hrm) ha]; exact q
      · rw [toldE]
        simp
        refine wLc_mapT (l := vals cs a) kD (fun v => .bl (decide (v ∈ told cs tb a))) (fun R q => by simp [hasCol_t.mpr ha]; exact q) ?_ (fun v hv => ⟨_, rfl, fun M' hs R q => ?_⟩) ?_
        · obtain ⟨c, _, _, e, g⟩ := hg.vals ha
          rw [e]; have := g.most; omega
        · simp [wipeE]; exact q
        · simp
          exact h
    case lead a b =>
      obtain ⟨ha, hb, _⟩ := hr
      simp [tabKeeps] at h
      simp [↓defW, env0, ↓w_table_keeps, colsT, rlD, rlW, rlP, tabD]
      refine wLc_mapT (l := tb) rowD (fun r => kD (cell cs r a)) (fun R q => by simpa using q) (by omega) (fun r hrm => ⟨_, rfl, fun M' hs R q => ?_⟩) ?_
      · simp [wipeE, hasCol_t.mpr ha, rowD, atI_cell (ht r hrm) ha]; exact q
      · rw [toldE]
        simp
        refine wLc_mapT (l := tb) rowD (fun r => kD (cell cs r b)) (fun R q => by simpa using q) (by omega) (fun r hrm => ⟨_, rfl, fun M' hs R q => ?_⟩) ?_
        · simp [wipeE, hasCol_t.mpr hb, rowD, atI_cell (ht r hrm) hb]; exact q
        · rw [toldE]
          simp
          refine ⟨_, kk _, _, kk _, by rw [tl]; omega, by rw [tl]; omega, _, kk _, by rw [tl]; omega, ?_⟩
          have e2 : decide (((dedT (List.zipWith (fun a b => [a, b]) (told cs tb a) (told cs tb b))).length : Int) = ((dedK (told cs tb a)).length : Int)) = (tb.all fun r => tb.all fun q => !decide (cell cs r a = cell cs q a) || decide (cell cs r b = cell cs q b)) := by
            rw [Bool.eq_iff_iff, decide_eq_true_eq]
            have := lead_len (fun r => cell cs r a) (fun r => cell cs r b) tb
            rw [show (((dedT (List.zipWith (fun a b => [a, b]) (told cs tb a) (told cs tb b))).length : Int) = ((dedK (told cs tb a)).length : Int)) ↔ (dedT (List.zipWith (fun a b => [a, b]) (told cs tb a) (told cs tb b))).length = (dedK (told cs tb a)).length by omega]
            unfold told
            rw [this]
            simp
            exact ⟨fun h r hr q hq => Decidable.or_iff_not_imp_left.mpr fun z => h r hr q hq (by simpa using z), fun h r hr q hq e => (h r hr q hq).resolve_left fun z => z e⟩
          rw [e2]
          exact h
  · exact h.elim
theorem kD_nb {l : Nat} {c : Col} (h : GoodCol l c) {n : Nat} : ∀ k ∈ c.2, NB 60 n (kD k) := fun k hk => by
  rcases h.homo with q | q
  · obtain ⟨i, rfl, _⟩ := q k hk; exact .int
  · obtain ⟨z, rfl, hz⟩ := q k hk; exact hz.nb (by decide)
theorem vals_nb {cs : List Col} (h : GoodCols 3 8 cs) {a : Str} (ha : has cs a) {n : Nat} : ∀ k ∈ vals cs a, NB 60 n (kD k) := fun k hk => by
  obtain ⟨c, _, _, e, g⟩ := h.vals ha
  rw [e] at hk
  exact kD_nb g k hk
theorem has_word {cs : List Col} (h : GoodCols 3 8 cs) {a : Str} (ha : has cs a) {n : Nat} : NB 60 n (.str a) := by
  obtain ⟨c, hc, rfl⟩ := ha
  exact (h.each c hc).name.nb (by decide)
theorem some_nb {cs : List Col} (h : GoodCols 3 8 cs) {b : Str} (hb : has cs b) {s : List Key} (hs : GoodSome cs b s) {n : Nat} : NB 60 (n + 1) (keysT s) := .tup (by rw [List.length_map]; have := hs.2.2.2; omega) fun d hd => by
  obtain ⟨k, hk, rfl⟩ := List.mem_map.mp hd
  exact vals_nb h hb k (hs.2.1 k hk)
theorem rl_nb {cs : List Col} (h : GoodCols 3 8 cs) {many : Nat} {r : Rl} (hr : GoodRl cs many r) : NB 60 5 (rlD r) := by
  have wd : ∀ z : Str, z.length ≤ 60 → NB 60 4 (.str z) := fun z hz => .str hz
  cases r <;> (refine .tup (by simp [rlP]) fun d hd => ?_) <;> simp [rlP, rlW] at hd
  case less a b =>
    obtain ⟨ha, hb, _⟩ := hr; rcases hd with rfl | rfl | rfl
    · exact wd _ (by decide +kernel)
    · exact has_word h ha
    · exact has_word h hb
  case same a b =>
    obtain ⟨ha, hb, _⟩ := hr; rcases hd with rfl | rfl | rfl
    · exact wd _ (by decide +kernel)
    · exact has_word h ha
    · exact has_word h hb
  case apart a b =>
    obtain ⟨ha, hb, _⟩ := hr; rcases hd with rfl | rfl | rfl
    · exact wd _ (by decide +kernel)
    · exact has_word h ha
    · exact has_word h hb
  case iff a v b s =>
    obtain ⟨ha, hb, _, hv, hs⟩ := hr; rcases hd with rfl | rfl | rfl | rfl | rfl
    · exact wd _ (by decide +kernel)
    · exact has_word h ha
    · exact vals_nb h ha v hv
    · exact has_word h hb
    · exact some_nb h hb hs
  case only a s =>
    obtain ⟨ha, hs⟩ := hr; rcases hd with rfl | rfl | rfl
    · exact wd _ (by decide +kernel)
    · exact has_word h ha
    · exact some_nb h ha hs
  case key a =>
    rcases hd with rfl | rfl
    · exact wd _ (by decide +kernel)
    · exact has_word h hr
  case rising a =>
    rcases hd with rfl | rfl
    · exact wd _ (by decide +kernel)
    · exact has_word h hr
  case sum a lo hi =>
    obtain ⟨ha, _⟩ := hr; rcases hd with rfl | rfl | rfl | rfl
    · exact wd _ (by decide +kernel)
    · exact has_word h ha
    · exact .int
    · exact .int
  case share a v lo hi =>
    obtain ⟨ha, hv, _⟩ := hr; rcases hd with rfl | rfl | rfl | rfl | rfl
    · exact wd _ (by decide +kernel)
    · exact has_word h ha
    · exact vals_nb h ha v hv
    · exact .int
    · exact .int
  case each a =>
    rcases hd with rfl | rfl
    · exact wd _ (by decide +kernel)
    · exact has_word h hr
  case held p a v =>
    obtain ⟨ha, _, hv⟩ := hr; rcases hd with rfl | rfl | rfl | rfl
    · exact wd _ (by decide +kernel)
    · exact .int
    · exact has_word h ha
    · exact vals_nb h ha v hv
  case lead a b =>
    obtain ⟨ha, hb, _⟩ := hr; rcases hd with rfl | rfl | rfl
    · exact wd _ (by decide +kernel)
    · exact has_word h ha
    · exact has_word h hb
  case seen a => exact hr.elim
theorem cols_nb {cs : List Col} (h : GoodCols 3 8 cs) : NB 60 3 (colsT cs) := by
  refine .tup (by rw [List.length_map, List.length_map]; have := h.most; omega) fun d hd => ?_
  obtain ⟨c', hc', rfl⟩ := List.mem_map.mp hd
  obtain ⟨c, hc, rfl⟩ := List.mem_map.mp hc'
  have g := h.each c hc
  refine .tup (by simp) fun d hd => ?_
  simp [tcl] at hd
  rcases hd with rfl | rfl
  · exact g.name.nb (by decide)
  · refine .tup (by rw [List.length_map]; have := g.most; omega) fun v hv => ?_
    obtain ⟨k, hk, rfl⟩ := List.mem_map.mp hv
    exact kD_nb g k hk
theorem bk_nb {b : Bk} (h : GoodBk b) : NB 60 8 (bkD b) := by
  refine .tup (by simp) fun d hd => ?_
  simp at hd
  rcases hd with rfl | rfl | rfl
  · exact (cols_nb h.cols).mono (by decide) (by decide)
  · exact .int
  · refine .tup (by rw [List.length_map]; have := h.few; omega) fun d hd => ?_
    obtain ⟨e, he, rfl⟩ := List.mem_map.mp hd
    refine .tup (by simp) fun d hd => ?_
    simp at hd
    rcases hd with rfl | rfl
    · exact (h.names e he).nb (by decide)
    · exact rl_nb h.cols (h.rules e he)
theorem row_nb {cs : List Col} (hc : GoodCols 3 8 cs) {r : Row} (h : GoodRow cs r) : NB 60 2 (rowD r) := by
  refine .tup (by rw [List.length_map, h.1]; have := hc.most; omega) fun d hd => ?_
  obtain ⟨k, hk, rfl⟩ := List.mem_map.mp hd
  obtain ⟨i, hi⟩ := List.mem_iff_getElem?.mp hk
  have i1 := (List.getElem?_eq_some_iff.mp hi).1
  have i2 : i < cs.length := by rw [← h.1]; exact i1
  have := h.2 i cs[i] k (List.getElem?_eq_getElem i2) hi
  exact kD_nb (hc.each _ (List.getElem_mem _)) k this
theorem tab_nb {cs : List Col} (hc : GoodCols 3 8 cs) {t : List Row} (hl : t.length ≤ 60) (h : ∀ r ∈ t, GoodRow cs r) : NB 60 3 (tabD t) := by
  refine .tup (by rw [List.length_map]; omega) fun d hd => ?_
  obtain ⟨r, hr, rfl⟩ := List.mem_map.mp hd
  exact row_nb hc (h r hr)
theorem bk_bd {b : Bk} (h : GoodBk b) : Bd (bkD b) := ⟨60, 8, bk_nb h, by decide, by decide⟩
theorem tab_bd {cs : List Col} (hc : GoodCols 3 8 cs) {t : List Row} (hl : t.length ≤ 60) (h : ∀ r ∈ t, GoodRow cs r) : Bd (tabD t) := ⟨60, 3, tab_nb hc hl h, by decide, by decide⟩
theorem p_broken : Imp g_broken (defW N_broken w_broken) := by
  intro ds M Q X h
  unfold g_broken at h
  split at h
  · obtain ⟨bk, tb, rfl, rfl, hb, hl, ht, h⟩ := h
    have hm := hb.many
    simp [↓defW, env0, ↓w_broken, bk_bd hb, tab_bd hb.cols (by omega) ht, isBook_bkD hb, (isTable_t hb).mpr ⟨hl, ht⟩]
    refine wLc_T (l := bk.rules) (fun e => .tup [.str e.1, rlD e.2]) (fun e => .str e.1) (fun e => !tabKeeps bk.cols tb e.2) (fun R q => by simpa [bkD, rulesT] using q) (by have := hb.few; omega) (fun e he => ⟨_, by simp [asT, asTs, wipeE]; rfl, fun M' hs => ⟨fun R q => ?_, fun _ R q => by simpa [wipeE] using q⟩⟩) ?_
    · simp [wipeE, bkD]
      exact ⟨hb.cols, by rw [hl]; exact hb.rules e he, by omega, ht, q⟩
    · intro a ha
      have := h a ha
      unfold brokenT at this
      rw [List.map_map] at this
      exact dropQ.self this
  · exact h.elim
end FL
set_option Elab.async false
set_option linter.all false
set_option maxRecDepth 100000
set_option maxHeartbeats 400000
namespace FL
open PySem PySem.Spec PyProof.Rows L2 Evl
/-! ### the laws' own looks: what rows and tables keep, all rows -/
@[simp ↓] def g__law_spot : Fn := fun ds M Q _ => match ds with
  | [c, .str x] => ∃ cs, c = colsT cs ∧ has cs x ∧ GoodCols 3 8 cs ∧ Q (.int (sp cs x)) M
  | _ => False
@[simp ↓] def g__law_row_keeps : Fn := fun ds M Q _ => match ds with
  | [c, r, row] => ∃ (cs : List Col) (many : Nat) (rl : Rl) (rw : Row), c = colsT cs ∧ r = rlD rl ∧ row = rowD rw ∧ GoodCols 3 8 cs ∧ GoodRl cs many rl ∧ isRowRl rl = true ∧ GoodRow cs rw ∧ Q (.bl (rowKeeps cs rw rl)) M
  | _ => False
@[simp ↓] def g__law_keeps : Fn := fun ds M Q _ => match ds with
  | [c, r, t] => ∃ (cs : List Col) (rl : Rl) (tb : List Row), c = colsT cs ∧ r = rlD rl ∧ t = tabD tb ∧ GoodCols 3 8 cs ∧ GoodRl cs tb.length rl ∧ tb.length ≤ 8 ∧ (∀ r ∈ tb, GoodRow cs r) ∧ Q (.bl (tabKeeps cs tb rl)) M
  | _ => False
@[simp ↓] def g__law_rows : Fn := fun ds M Q _ => match ds with
  | [c] => ∃ cs, c = colsT cs ∧ GoodCols 3 8 cs ∧ Q (.lst ((allRows cs).map rowD)) M
  | _ => False
/- _law_spot: 0 _law_columns_here 1 _law_name 2 _law_column -/
abbrev N__law_spot : List Str := ["_law_columns_here", "_law_name", "_law_column"]
def w__law_spot : SS := (sSeq (sRet (wM "list" mIndex (wLc false (wIt (wSlot 0)) (asT1 2) [2] tTrue (w2 sSub1 (wSlot 2) (wC (.int 0)))) (aCons (wSlot 1) aNil)))
sNil)
/- _law_row_keeps: 0 _law_columns_here 1 _law_rule_here 2 _law_row 3 _law_here 4 _law_there -/
abbrev N__law_row_keeps : List Str := ["_law_columns_here", "_law_rule_here", "_law_row", "_law_here", "_law_there"]
def w__law_row_keeps : SS := (sSeq (sAsg (gSlot 3) (w2 sSub1 (wSlot 2) (wCall 2 g__law_spot (aCons (wSlot 0) (aCons (w2 sSub1 (wSlot 1) (wC (.int 1))) aNil)))))
(sSeq (sIf (wTest (w2 (sEq false) (w2 sSub1 (wSlot 1) (wC (.int 0))) (wC (.str "only"))))
 (sSeq (sRet (w2 (sInD false) (wSlot 3) (w2 sSub1 (wSlot 1) (wC (.int 2)))))
sNil)
 sNil)
(sSeq (sIf (wTest (w2 (sEq false) (w2 sSub1 (wSlot 1) (wC (.int 0))) (wC (.str "if"))))
 (sSeq (sRet (wOr (w2 (sEq true) (wSlot 3) (w2 sSub1 (wSlot 1) (wC (.int 2)))) (w2 (sInD false) (w2 sSub1 (wSlot 2) (wCall 2 g__law_spot (aCons (wSlot 0) (aCons (w2 sSub1 (wSlot 1) (wC (.int 3))) aNil)))) (w2 sSub1 (wSlot 1) (wC (.int 4))))))
sNil)
 sNil)
(sSeq (sAsg (gSlot 4) (w2 sSub1 (wSlot 2) (wCall 2 g__law_spot (aCons (wSlot 0) (aCons (w2 sSub1 (wSlot 1) (wC (.int 2))) aNil)))))
(sSeq (sRet (w2 sSub1 (wDisp [((wC (.str "less")), (w2 sLt (wSlot 3) (wSlot 4))), ((wC (.str "same")), (w2 (sEq false) (wSlot 3) (wSlot 4))), ((wC (.str "apart")), (w2 (sEq true) (wSlot 3) (wSlot 4)))]) (w2 sSub1 (wSlot 1) (wC (.int 0)))))
sNil)))))
/- _law_keeps: 0 _law_columns_here 1 _law_rule_here 2 _law_table 3 _law_word_here 4 _law_told 5 _law_led 6 _law_row 7 _law_here 8 _law_k 9 _law_value -/
abbrev N__law_keeps : List Str := ["_law_columns_here", "_law_rule_here", "_law_table", "_law_word_here", "_law_told", "_law_led", "_law_row", "_law_here", "_law_k", "_law_value"]
def w__law_keeps : SS := (sSeq (sAsg (gSlot 3) (w2 sSub1 (wSlot 1) (wC (.int 0))))
(sSeq (sIf (wTest (w2 (sInD false) (wSlot 3) (wF sTup (aCons (wC (.str "less")) (aCons (wC (.str "same")) (aCons (wC (.str "apart")) (aCons (wC (.str "if")) (aCons (wC (.str "only")) aNil))))))))
 (sSeq (sRet (w2 (sEq false) (wLc false (wIt (wSlot 2)) (asT1 6) [6] (tNot (wTest (wCall 3 g__law_row_keeps (aCons (wSlot 0) (aCons (wSlot 1) (aCons (wSlot 6) aNil)))))) (wSlot 6)) (wF (sLst false) aNil)))
sNil)
 sNil)
(sSeq (sIf (wTest (w2 (sEq false) (wSlot 3) (wC (.str "held"))))
 (sSeq (sRet (w2 (sEq false) (w2 sSub1 (w2 sSub1 (wSlot 2) (w2 sSub1 (wSlot 1) (wC (.int 1)))) (wCall 2 g__law_spot (aCons (wSlot 0) (aCons (w2 sSub1 (wSlot 1) (wC (.int 2))) aNil)))) (w2 sSub1 (wSlot 1) (wC (.int 3)))))
sNil)
 sNil)
(sSeq (sAsg (gSlot 4) (wLc false (wIt (wSlot 2)) (asT1 6) [6] tTrue (w2 sSub1 (wSlot 6) (wCall 2 g__law_spot (aCons (wSlot 0) (aCons (w2 sSub1 (wSlot 1) (wC (.int 1))) aNil))))))
(sSeq (sIf (wTest (w2 (sEq false) (wSlot 3) (wC (.str "key"))))
 (sSeq (sRet (w2 (sEq false) (wLc false (wRange1 (aCons (wF sLen (aCons (wSlot 4) aNil)) aNil)) (asT1 8) [8] (wTest (w2 (sInD false) (w2 sSub1 (wSlot 4) (wSlot 8)) (wCut false (wSlot 4) none (some (wSlot 8))))) (wSlot 8)) (wF (sLst false) aNil)))
sNil)
 sNil)
(sSeq (sIf (wTest (w2 (sEq false) (wSlot 3) (wC (.str "rising"))))
 (sSeq (sRet (w2 (sEq false) (wLc false (wRange2 (aCons (wC (.int 1)) (aCons (wF sLen (aCons (wSlot 4) aNil)) aNil))) (asT1 8) [8] (wTest (w2 sLt (w2 sSub1 (wSlot 4) (wSlot 8)) (w2 sSub1 (wSlot 4) (w2 sSub (wSlot 8) (wC (.int 1)))))) (wSlot 8)) (wF (sLst false) aNil)))
sNil)
 sNil)
(sSeq (sIf (wTest (w2 (sEq false) (wSlot 3) (wC (.str "sum"))))
 (sSeq (sRet (w3 sLe sLe (w2 sSub1 (wSlot 1) (wC (.int 2))) (wF sSum (aCons (wSlot 4) aNil)) (w2 sSub1 (wSlot 1) (wC (.int 3)))))
sNil)
 sNil)
(sSeq (sIf (wTest (w2 (sEq false) (wSlot 3) (wC (.str "share"))))
 (sSeq (sRet (w3 sLe sLe (w2 sSub1 (wSlot 1) (wC (.int 3))) (wF sLen (aCons (wLc false (wIt (wSlot 4)) (asT1 9) [9] (wTest (w2 (sEq false) (wSlot 9) (w2 sSub1 (wSlot 1) (wC (.int 2))))) (wSlot 9)) aNil)) (w2 sSub1 (wSlot 1) (wC (.int 4)))))
sNil)
 sNil)
(sSeq (sIf (wTest (w2 (sEq false) (wSlot 3) (wC (.str "each"))))
 (sSeq (sRet (w2 (sEq false) (wLc false (wIt (w2 sSub1 (w2 sSub1 (wSlot 0) (wCall 2 g__law_spot (aCons (wSlot 0) (aCons (w2 sSub1 (wSlot 1) (wC (.int 1))) aNil)))) (wC (.int 1)))) (asT1 9) [9] (wTest (w2 (sInD true) (wSlot 9) (wSlot 4))) (wSlot 9)) (wF (sLst false) aNil)))
sNil)
 sNil)
(sSeq (sAsg (gSlot 5) wNewD)
(sSeq (sFor (wZipA (aCons (wSlot 2) (aCons (wSlot 4) aNil))) (gTuple [6, 7])
 (sSeq (sIf (wTest (w2 (sEq true) (wM "dict" mSetDef (wSlot 5) (aCons (wSlot 7) (aCons (w2 sSub1 (wSlot 6) (wCall 2 g__law_spot (aCons (wSlot 0) (aCons (w2 sSub1 (wSlot 1) (wC (.int 2))) aNil)))) aNil))) (w2 sSub1 (wSlot 6) (wCall 2 g__law_spot (aCons (wSlot 0) (aCons (w2 sSub1 (wSlot 1) (wC (.int 2))) aNil))))))
 (sSeq (sRet (wC (.bl false)))
sNil)
 sNil)
sNil))
(sSeq (sRet (wC (.bl true)))
sNil))))))))))))
/- _law_rows: 0 _law_columns_here 1 _law_rows_here 2 _law_name 3 _law_values 4 _law_longer 5 _law_row 6 _law_value -/
abbrev N__law_rows : List Str := ["_law_columns_here", "_law_rows_here", "_law_name", "_law_values", "_law_longer", "_law_row", "_law_value"]
def w__law_rows : SS := (sSeq (sAsg (gSlot 1) (wF (sLst false) (aCons (wF sTup aNil) aNil)))
(sSeq (lockIt 0 (sFor (wIt (wSlot 0)) (gTuple [2, 3])
 (sSeq (sAsg (gSlot 4) (wF (sLst false) aNil))
(sSeq (lockIt 1 (sFor (wIt (wSlot 1)) (gSlot 5)
 (sSeq (sAsg (gSlot 4) (w2 (sAdd false) (wSlot 4) (wLc false (wIt (wSlot 3)) (asT1 6) [6] tTrue (w2 (sAdd false) (wSlot 5) (wF sTup (aCons (wSlot 6) aNil))))))
sNil)))
(sSeq (sAsg (gSlot 1) (wSlot 4))
sNil)))))
(sSeq (sRet (wSlot 1))
sNil)))
theorem p__law_spot : Imp g__law_spot (defW N__law_spot w__law_spot) := by
  intro ds M Q X h
  unfold g__law_spot at h
  split at h
  · rename_i x
    obtain ⟨cs, rfl, hx, hg, h⟩ := h
    replace h := dropQ.self h
    have hm := hg.most
    simp [↓defW, env0, ↓w__law_spot]
    refine wLc_mapT (l := cs) (fun c => colD (tcl c)) (fun c => .str c.1) (fun R q => by simp [colsT, colsD]; exact q) (by omega) (fun c hc => ⟨_, rfl, fun M' hs R q => ?_⟩) ?_
    · simp [wipeE, colD, tcl]; exact q
    · simp
      refine ⟨cs.map fun c => .inr c.1, by rw [List.map_map]; rfl, .inr x, rfl, sp cs x, ?_, fun m hm2 e => ?_, h⟩
      · obtain ⟨c, hc, e, _⟩ := sp_get hx
        rw [List.getElem?_map, hc, ← e]; rfl
      · rw [List.getElem?_map] at e
        obtain ⟨c, hc, e⟩ := Option.map_eq_some_iff.mp e
        obtain ⟨i1, e1⟩ := List.getElem?_eq_some_iff.mp hc
        have := List.not_of_lt_findIdx hm2
        rw [e1] at this
        rw [decide_eq_true (Sum.inr.inj e)] at this
        cases this
  · exact h.elim
theorem cell_kind {cs : List Col} (hc : GoodCols 3 8 cs) {r : Row} (hr : GoodRow cs r) {a b : Str} (ha : has cs a) (hb : has cs b) (hn : nums cs a = nums cs b) : (∃ i j, cell cs r a = .inl i ∧ cell cs r b = .inl j) ∨ ∃ i j, cell cs r a = .inr i ∧ cell cs r b = .inr j := by
  cases h : nums cs a with
  | true =>
    obtain ⟨i, ei, _⟩ := cell_num hc hr ha h
    obtain ⟨j, ej, _⟩ := cell_num hc hr hb (hn ▸ h)
    exact .inl ⟨i, j, ei, ej⟩
  | false =>
    obtain ⟨i, ei, _⟩ := cell_txt hc hr ha h
    obtain ⟨j, ej, _⟩ := cell_txt hc hr hb (hn ▸ h)
    exact .inr ⟨i, j, ei, ej⟩
theorem disp3 {x y z : D} : getK (mergeD [] [(Sum.inr (Str.ofString "less"), x), (Sum.inr (Str.ofString "same"), y), (Sum.inr (Str.ofString "apart"), z)]) (.inr (Str.ofString "less") : Key) = some x ∧
    getK (mergeD [] [(Sum.inr (Str.ofString "less"), x), (Sum.inr (Str.ofString "same"), y), (Sum.inr (Str.ofString "apart"), z)]) (.inr (Str.ofString "same") : Key) = some y ∧
    getK (mergeD [] [(Sum.inr (Str.ofString "less"), x), (Sum.inr (Str.ofString "same"), y), (Sum.inr (Str.ofString "apart"), z)]) (.inr (Str.ofString "apart") : Key) = some z := by
  simp [mergeD, putD, getK]
theorem p__law_row_keeps : Imp g__law_row_keeps (defW N__law_row_keeps w__law_row_keeps) := by
  intro ds M Q X h
  unfold g__law_row_keeps at h
  split at h
  · obtain ⟨cs, many, rl, rw, rfl, rfl, rfl, hg, hr, hrow, hrr, h⟩ := h
    replace h := dropQ.self h
    cases rl <;> first | (cases hrow; done) | skip
    case less a b =>
      obtain ⟨ha, hb, _, hn1, hn2⟩ := hr
      obtain ⟨i, ei, _⟩ := cell_num hg hrr ha hn1
      obtain ⟨j, ej, _⟩ := cell_num hg hrr hb hn2
      simp [rowKeeps, ei, ej, ltK] at h
      simp [↓defW, env0, ↓w__law_row_keeps, rlD, rlW, rlP, rowD, ha, hb, hg, atI_cell hrr ha, atI_cell hrr hb, ei, ej]
      intro p hp
      refine ⟨_, rfl, by simp, ?_⟩
      simp
      exact ⟨_, rfl, _, disp3.1, h.sub2 (Sub.new hp)⟩
    case same a b =>
      obtain ⟨ha, hb, _, hn⟩ := hr
      rcases cell_kind hg hrr ha hb hn with ⟨i, j, ei, ej⟩ | ⟨i, j, ei, ej⟩
      all_goals
        simp [rowKeeps, ei, ej] at h
        simp [↓defW, env0, ↓w__law_row_keeps, rlD, rlW, rlP, rowD, ha, hb, hg, atI_cell hrr ha, atI_cell hrr hb, ei, ej]
        intro p hp
        refine ⟨_, rfl, by simp, ?_⟩
        simp
        exact ⟨_, rfl, _, disp3.2.1, h.sub2 (Sub.new hp)⟩
    case apart a b =>
      obtain ⟨ha, hb, _, hn⟩ := hr
      rcases cell_kind hg hrr ha hb hn with ⟨i, j, ei, ej⟩ | ⟨i, j, ei, ej⟩
      all_goals
        simp [rowKeeps, ei, ej] at h
        simp [↓defW, env0, ↓w__law_row_keeps, rlD, rlW, rlP, rowD, ha, hb, hg, atI_cell hrr ha, atI_cell hrr hb, ei, ej]
        intro p hp
        refine ⟨_, rfl, by simp, ?_⟩
        simp
        exact ⟨_, rfl, _, disp3.2.2, h.sub2 (Sub.new hp)⟩
    case iff a v b s =>
      obtain ⟨ha, hb, _, hv, hs⟩ := hr
      simp [rowKeeps] at h
      simp [↓defW, env0, ↓w__law_row_keeps, rlD, rlW, rlP, rowD, keysT, ha, hb, hg, atI_cell hrr ha, atI_cell hrr hb]
      exact h
    case only a s =>
      obtain ⟨ha, hs⟩ := hr
      simp [rowKeeps] at h
      simp [↓defW, env0, ↓w__law_row_keeps, rlD, rlW, rlP, rowD, keysT, ha, hg, atI_cell hrr ha]
      exact h
  · exact h.elim
theorem keep_filter {α : Type} {l : List α} {c : α → Bool} {f : α → D} (hp : ∀ a ∈ l, pure (f a) = true) : pure (.lst ((l.filter c).map f)) = true ∧ eqDs ((l.filter c).map f) [] = l.all fun a => !c a := by
  refine ⟨?_, ?_⟩
  · rw [pure_lst, List.all_map, List.all_eq_true]
    exact fun a ha => hp a (List.mem_filter.mp ha).1
  · rw [eqDs_nilR, List.isEmpty_map, isEmpty_filter]
theorem atI_list {l : List Key} {i : Nat} (h : i < l.length) : atI (l.map kD) (i : Int) = some (kD (l.getD i (.inl 0))) := atI_nat (by
  rw [List.getElem?_map, List.getElem?_eq_getElem h, List.getD_eq_getElem?_getD, List.getElem?_eq_getElem h]; rfl)
theorem nodup_law {l : List Key} : ((List.range l.length).all fun k => !decide (l.getD k (.inl 0) ∈ l.take k)) = decide l.Nodup := by
  rw [Bool.eq_iff_iff, List.all_eq_true, decide_eq_true_eq]
  constructor
  · intro h
    refine List.pairwise_iff_getElem.mpr fun i j hi hj hij e => ?_
    have := h j (List.mem_range.mpr hj)
    rw [Bool.not_eq_true', decide_eq_false_iff_not] at this
    refine this ?_
    rw [List.getD_eq_getElem?_getD, List.getElem?_eq_getElem hj]
    show l[j] ∈ _
    rw [← e]
    exact List.mem_of_getElem? (i := i) (by rw [List.getElem?_take, if_pos hij, List.getElem?_eq_getElem hi])
  · intro h k hk
    have hk := List.mem_range.mp hk
    rw [Bool.not_eq_true', decide_eq_false_iff_not, List.getD_eq_getElem?_getD, List.getElem?_eq_getElem hk]
    intro hm
    obtain ⟨i, hi⟩ := List.mem_iff_getElem?.mp hm
    rw [List.getElem?_take] at hi
    split at hi
    · rename_i hik
      obtain ⟨i1, e⟩ := List.getElem?_eq_some_iff.mp hi
      exact List.pairwise_iff_getElem.mp h i k i1 hk hik e
    · cases hi
theorem ltK_le_tr {a b c : Key} (hk : isNum a = isNum b) (h2 : isNum b = isNum c) (h : ltK b a = false) (g : ltK c b = false) : ltK c a = false := by
  cases q : ltK c a with
  | false => rfl
  | true =>
    rcases ltK_tri hk with z | z | z
    · have := ltK_tr q z; rw [g] at this; cases this
    · subst z; rw [g] at q; cases q
    · rw [h] at z; cases z
theorem rising_law {l : List Key} (hk : ∀ a ∈ l, ∀ b ∈ l, isNum a = isNum b) : ((List.range (l.length - 1)).all fun k => !ltK (l.getD (k + 1) (.inl 0)) (l.getD k (.inl 0))) = decide (l.Pairwise fun x y => ltK y x = false) := by
  rw [Bool.eq_iff_iff, List.all_eq_true, decide_eq_true_eq]
  induction l with
  | nil => simp
  | cons x r ih =>
    have ih := ih fun a ha b hb => hk a (List.mem_cons_of_mem _ ha) b (List.mem_cons_of_mem _ hb)
    cases r with
    | nil => simp
    | cons y t =>
      have step : (∀ k ∈ List.range ((x :: y :: t).length - 1), (!ltK ((x :: y :: t).getD (k + 1) (.inl 0)) ((x :: y :: t).getD k (.inl 0))) = true) ↔ (ltK y x = false ∧ ∀ k ∈ List.range ((y :: t).length - 1), (!ltK ((y :: t).getD (k + 1) (.inl 0)) ((y :: t).getD k (.inl 0))) = true) := by
        constructor
        · intro h
          refine ⟨by simpa using h 0 (by simp), fun k hk => ?_⟩
          have := h (k + 1) (by simp at hk ⊢; omega)
          simpa using this
        · rintro ⟨h1, h2⟩ k hk
          cases k with
          | zero => simpa using h1
          | succ k => simpa using h2 k (by simp at hk ⊢; omega)
      rw [step, ih, List.pairwise_cons (a := x)]
      constructor
      · rintro ⟨h1, h2⟩
        refine ⟨fun z hz => ?_, h2⟩
        rcases List.mem_cons.mp hz with rfl | hz
        · exact h1
        · exact ltK_le_tr (hk x (by simp) y (by simp)) (hk y (by simp) z (by simp [hz])) h1 ((List.pairwise_cons.mp h2).1 z hz)
      · rintro ⟨h1, h2⟩
        exact ⟨h1 y (by simp), h2⟩
theorem getK_app {kvs : List (Key × D)} {k k' : Key} {d : D} : getK (kvs ++ [(k, d)]) k' = match getK kvs k' with | some x => some x | none => if k = k' then some d else none := by
  induction kvs with
  | nil => rfl
  | cons p r ih =>
    rw [List.cons_append]
    unfold getK
    by_cases e : p.1 = k'
    · simp [e]
    · simp only [e, if_false]; exact ih
theorem putD_none {kvs : List (Key × D)} {k : Key} {d : D} (h : getK kvs k = none) : putD kvs k d = kvs ++ [(k, d)] := by
  unfold putD
  rw [if_neg]
  intro hk
  obtain ⟨p, hp, e⟩ := List.any_eq_true.mp hk
  have e := of_decide_eq_true e
  induction kvs with
  | nil => cases hp
  | cons q r ih =>
    unfold getK at h
    by_cases e2 : q.1 = k
    · rw [if_pos e2] at h; cases h
    · rw [if_neg e2] at h
      rcases List.mem_cons.mp hp with rfl | hp
      · exact e2 e
      · exact ih h (List.any_eq_true.mpr ⟨p, hp, decide_eq_true e⟩) hp
theorem p__law_keeps : Imp g__law_keeps (defW N__law_keeps w__law_keeps) := by
  intro ds M Q X h
  unfold g__law_keeps at h
  split at h
  · obtain ⟨cs, rl, tb, rfl, rfl, rfl, hg, hr, hl, ht, h⟩ := h
    replace h := dropQ.self h
    have rows : isRowRl rl = true → (∀ t, tabKeeps cs t rl = t.all fun row => rowKeeps cs row rl) → defW N__law_keeps w__law_keeps [colsT cs, rlD rl, tabD tb] M (dropQ Q) (dropQ X) := fun hrow e => by
      rw [e] at h
      have hw : inD (.str (rlW rl)) [.str "less", .str "same", .str "apart", .str "if", .str "only"] = true := by cases rl <;> first | (cases hrow; done) | (simp [rlW])
      obtain ⟨ps, eps⟩ : ∃ ps, rlD rl = .tup (.str (rlW rl) :: ps) := ⟨_, rfl⟩
      rw [eps]
      simp [↓defW, env0, ↓w__law_keeps, tabD]
      simp at hw
      rw [if_pos (by rcases hw with q | q | q | q | q <;> simp [q])]
      refine wLc_T (l := tb) rowD rowD (fun r => !rowKeeps cs r rl) (fun R q => by simpa using q) (by omega) (fun r hrm => ⟨_, rfl, fun M' hs => ⟨fun R q => ?_, fun _ R q => by simpa [wipeE] using q⟩⟩) ?_
      · simp [wipeE]
        exact ⟨tb.length, rl, eps.symm, hg, hr, hrow, ht r hrm, q⟩
      · obtain ⟨q1, q2⟩ := keep_filter (l := tb) (c := fun r => !rowKeeps cs r rl) (f := rowD) fun r _ => by unfold rowD; rw [pure_tup]; simp
        simp only [↓fresh, ↓sEq, deref_lst, q1, eqD_lst, q2]
        simp
        simpa using h
    have toldE : ∀ a, tb.map (fun r => kD (cell cs r a)) = (told cs tb a).map kD := fun a => by unfold told; rw [List.map_map]; rfl
    have kk : ∀ l : List Key, List.map (keyOf ∘ kD) l = l.map some := fun l => by rw [← List.map_map]; exact keys_kD l
    have tl : ∀ a, (told cs tb a).length = tb.length := fun a => by unfold told; rw [List.length_map]
    cases rl <;> first | exact rows rfl (fun _ => rfl) | skip
    case seen a => exact hr.elim
    case held p a v =>
      obtain ⟨ha, hp, hv⟩ := hr
      simp [tabKeeps] at h
      simp [↓defW, env0, ↓w__law_keeps, rlD, rlW, rlP, tabD, ha, hg, atI_tab hp]
      simp [rowD, atI_cell (getD_row hp ht) ha]
      exact h
    case key a =>
      have ha : has cs a := hr
      simp [tabKeeps] at h
      simp [↓defW, env0, ↓w__law_keeps, rlD, rlW, rlP, tabD]
      refine wLc_mapT (l := tb) rowD (fun r => kD (cell cs r a)) (fun R q => by simpa using q) (by omega) (fun r hrm => ⟨_, rfl, fun M' hs R q => ?_⟩) ?_
      · simp [wipeE, ha, hg, rowD, atI_cell (ht r hrm) ha]; exact q
      · rw [toldE]
        simp
        have hll := tl a
        generalize told cs tb a = l at h hll ⊢
        refine wLc_T (l := List.range l.length) (fun i => .int (0 + (i : Nat))) (fun i => .int (0 + (i : Nat))) (fun i => decide (l.getD i (.inl 0) ∈ l.take i)) (fun R q => by simp; exact ⟨by omega, q⟩) (by simp; omega) (fun i hi => ⟨_, rfl, fun M' hs => ⟨fun R q => ?_, fun _ R q => by simpa [wipeE] using q⟩⟩) ?_
        · have hi := List.mem_range.mp hi
          simp [wipeE, atI_list hi, cutD_to, ← List.map_take]
          exact q
        · obtain ⟨q1, q2⟩ := keep_filter (l := List.range l.length) (c := fun i => decide (l.getD i (.inl 0) ∈ l.take i)) (f := fun i => D.int (0 + (i : Nat))) fun r _ => rfl
          simp only [↓fresh, deref_lst, q1, eqD_lst, q2, nodup_law]
          exact ⟨trivial, by omega, h⟩
    case rising a =>
      have ha : has cs a := hr
      simp [tabKeeps] at h
      simp [↓defW, env0, ↓w__law_keeps, rlD, rlW, rlP, tabD]
      refine wLc_mapT (l := tb) rowD (fun r => kD (cell cs r a)) (fun R q => by simpa using q) (by omega) (fun r hrm => ⟨_, rfl, fun M' hs R q => ?_⟩) ?_
      · simp [wipeE, ha, hg, rowD, atI_cell (ht r hrm) ha]; exact q
      · rw [toldE]
        simp
        have hll := tl a
        have hkind : ∀ x ∈ told cs tb a, ∀ y ∈ told cs tb a, isNum x = isNum y := by
          rcases told_all hg ht ha with ⟨_, ns, e, _⟩ | ⟨_, zs, e⟩ <;> rw [e] <;> (intro x hx y hy; obtain ⟨i, _, rfl⟩ := List.mem_map.mp hx; obtain ⟨j, _, rfl⟩ := List.mem_map.mp hy; rfl)
        generalize told cs tb a = l at h hll hkind ⊢
        refine wLc_T (l := List.range (l.length - 1)) (fun i => .int (1 + (i : Nat))) (fun i => .int (1 + (i : Nat))) (fun i => ltK (l.getD (i + 1) (.inl 0)) (l.getD i (.inl 0))) (fun R q => by simp; exact ⟨by omega, q⟩) (by simp; omega) (fun i hi => ⟨_, rfl, fun M' hs => ⟨fun R q => ?_, fun _ R q => by simpa [wipeE] using q⟩⟩) ?_
        · have hi := List.mem_range.mp hi
          have e1 := atI_list (l := l) (i := i) (by omega)
          have e2 : atI (l.map kD) ((i : Int) + 1) = some (kD (l.getD (i + 1) (.inl 0))) := atI_list (l := l) (i := i + 1) (by omega)
          have hk := hkind (l.getD (i + 1) (.inl 0)) (by rw [List.getD_eq_getElem?_getD, List.getElem?_eq_getElem (by omega)]; exact List.getElem_mem _) (l.getD i (.inl 0)) (by rw [List.getD_eq_getElem?_getD, List.getElem?_eq_getElem (by omega)]; exact List.getElem_mem _)
          have z1 : (1 : Int) + (i : Int) = ((i + 1 : Nat) : Int) := by omega
          simp only [wipeE, z1] at q ⊢
          generalize l.getD (i + 1) (.inl 0) = x at e2 hk q
          generalize l.getD i (.inl 0) = y at e1 hk q
          cases x <;> cases y <;> first | (cases hk; done) | skip
          all_goals
            simp
            refine ⟨_, e2, ?_⟩
            simp [e1]
            simpa [ltK] using q
        · obtain ⟨q1, q2⟩ := keep_filter (l := List.range (l.length - 1)) (c := fun i => ltK (l.getD (i + 1) (.inl 0)) (l.getD i (.inl 0))) (f := fun i => D.int (1 + (i : Nat))) fun r _ => rfl
          simp only [↓fresh, deref_lst, q1, eqD_lst, q2, rising_law hkind]
          exact ⟨trivial, by omega, h⟩
    case sum a lo hi =>
      obtain ⟨ha, hn, _⟩ := hr
      simp [tabKeeps] at h
      simp [↓defW, env0, ↓w__law_keeps, rlD, rlW, rlP, tabD]
      refine wLc_mapT (l := tb) rowD (fun r => kD (cell cs r a)) (fun R q => by simpa using q) (by omega) (fun r hrm => ⟨_, rfl, fun M' hs R q => ?_⟩) ?_
      · simp [wipeE, ha, hg, rowD, atI_cell (ht r hrm) ha]; exact q
      · rw [toldE]
        rcases told_all hg ht ha with ⟨_, ns, e, _⟩ | ⟨z, _⟩
        · rw [e, sum_numK] at h
          rw [e, List.map_map, show (kD ∘ Sum.inl) = D.int from rfl]
          simp [sSum_kD]
          simpa using h
        · rw [hn] at z; cases z
    case share a v lo hi =>
      obtain ⟨ha, hv, _⟩ := hr
      simp [tabKeeps] at h
      simp [↓defW, env0, ↓w__law_keeps, rlD, rlW, rlP, tabD]
      refine wLc_mapT (l := tb) rowD (fun r => kD (cell cs r a)) (fun R q => by simpa using q) (by omega) (fun r hrm => ⟨_, rfl, fun M' hs R q => ?_⟩) ?_
      · simp [wipeE, ha, hg, rowD, atI_cell (ht r hrm) ha]; exact q
      · rw [toldE]
        simp
        refine wLc_T (l := told cs tb a) kD kD (fun k => decide (k = v)) (fun R q => by simpa using q) (by rw [tl]; omega) (fun k hk => ⟨_, rfl, fun M' hs => ⟨fun R q => by simp [wipeE]; exact q, fun _ R q => by simpa [wipeE] using q⟩⟩) ?_
        simp
        rw [show ((told cs tb a).filter fun k => decide (k = v)).length = (told cs tb a).count v by rw [List.count, List.countP_eq_length_filter]; rfl]
        exact h
    case each a =>
      have ha : has cs a := hr
      simp [tabKeeps] at h
      simp [↓defW, env0, ↓w__law_keeps, rlD, rlW, rlP, tabD]
      refine wLc_mapT (l := tb) rowD (fun r => kD (cell cs r a)) (fun R q => by simpa using q) (by omega) (fun r hrm => ⟨_, rfl, fun M' hs R q => ?_⟩) ?_
      · simp [wipeE, ha, hg, rowD, atI_cell (ht r hrm) ha]; exact q
      · rw [toldE]
        simp
        obtain ⟨c, hc, _, ev, _⟩ := sp_get ha
        have e0 : atI (List.map (colD ∘ tcl) cs) (sp cs a : Int) = some (colD (tcl c)) := atI_nat (by rw [List.getElem?_map, hc]; rfl)
        refine wLc_T (l := vals cs a) kD kD (fun v => !decide (v ∈ told cs tb a)) (fun R q => ?_) ?_ (fun v hv => ⟨_, rfl, fun M' hs => ⟨fun R q => by simp [wipeE]; exact q, fun _ R q => by simpa [wipeE] using q⟩⟩) ?_
        · simp [ha, hg]
          simp [colsT, colsD, e0]
          simp [colD, tcl, ← ev]
          exact q
        · obtain ⟨c, _, _, e, g⟩ := hg.vals ha
          rw [e]; have := g.most; omega
        · obtain ⟨q1, q2⟩ := keep_filter (l := vals cs a) (c := fun v => !decide (v ∈ told cs tb a)) (f := kD) fun r _ => pure_kD r
          simp only [↓fresh, deref_lst, q1, eqD_lst, q2]
          simp
          simpa using h
    case lead a b =>
      obtain ⟨ha, hb, _⟩ := hr
      simp [tabKeeps] at h
      simp [↓defW, env0, ↓w__law_keeps, rlD, rlW, rlP, tabD]
      refine wLc_mapT (l := tb) rowD (fun r => kD (cell cs r a)) (fun R q => by simpa using q) (by omega) (fun r hrm => ⟨_, rfl, fun M' hs R q => ?_⟩) ?_
      · simp [wipeE, ha, hg, rowD, atI_cell (ht r hrm) ha]; exact q
      · rw [toldE]
        simp
        intro p hp
        refine loopW_ind (fun i e mm => ∃ kvs s6 s7, e = [some (colsT cs), some (D.tup [D.str (Str.ofString "lead"), D.str a, D.str b]), some (D.tup (List.map rowD tb)), some (D.str (Str.ofString "lead")), some (D.lst (List.map kD (told cs tb a))), some (D.ptr p), s6, s7, none, none] ∧ mm p = some (.md kvs) ∧ Sub M mm ∧ kvs.length ≤ i ∧
          (∀ r ∈ tb.take i, getK kvs (cell cs r a) = some (kD (cell cs r b))) ∧ ∀ k, getK kvs k ≠ none → ∃ r ∈ tb.take i, cell cs r a = k) ⟨[], _, _, rfl, put_same, Sub.new hp, Nat.le_refl _, (by simp), fun k q => absurd rfl q⟩ (fun _ _ _ _ => trivial) ?_ ?_
        · rintro e mm ⟨kvs, s6, s7, rfl, mp, hs, hlen, h1, h2⟩
          have hal : ∀ r ∈ tb, getK kvs (cell cs r a) = some (kD (cell cs r b)) := fun r hr => h1 r (by rw [List.take_of_length_le]; exact hr; unfold pairsD; simp [tl])
          simp
          have : (tb.all fun r => tb.all fun q => !decide (cell cs r a = cell cs q a) || decide (cell cs r b = cell cs q b)) = true := by
            simp only [List.all_eq_true]
            intro r hr q hq
            by_cases e : cell cs r a = cell cs q a
            · have e1 := hal r hr
              rw [e, hal q hq] at e1
              simp [kD_inj (Option.some.inj e1)]
            · simp [e]
          rw [this] at h
          exact h.sub2 hs
        · rintro i d e mm K hd ⟨kvs, s6, s7, rfl, mp, hs, hlen, h1, h2⟩ hnx hct hbk hrt hxx
          obtain ⟨r, hr, rfl⟩ : ∃ r, tb[i]? = some r ∧ d = .tup [rowD r, kD (cell cs r a)] := by
            unfold pairsD told at hd
            rw [List.zipWith_map_left, List.zipWith_map_right, List.zipWith_map_right, List.zipWith_self, List.getElem?_map] at hd
            obtain ⟨r, hr, e⟩ := Option.map_eq_some_iff.mp hd
            exact ⟨r, hr, e.symm⟩
          have hrm := List.mem_of_getElem? hr
          have hi := (List.getElem?_eq_some_iff.mp hr).1
          have htk : tb.take (i + 1) = tb.take i ++ [r] := by rw [List.take_succ, hr]; rfl
          have hcb := atI_cell (ht r hrm) hb
          simp [mp, ha, hb, hg, rowD, hcb]
          refine ⟨_, _, ⟨rfl, rfl⟩, by omega, ?_⟩
          have bad : (∃ q ∈ tb, cell cs q a = cell cs r a ∧ cell cs q b ≠ cell cs r b) → dropQ Q (D.bl false) M := fun ⟨q, hq, e1, e2⟩ => by
            have : (tb.all fun r => tb.all fun q => !decide (cell cs r a = cell cs q a) || decide (cell cs r b = cell cs q b)) = false := by
              rw [Bool.eq_false_iff]
              intro hal
              simp only [List.all_eq_true] at hal
              have := hal q hq r hrm
              rw [decide_eq_true e1, decide_eq_false e2] at this
              cases this
            rw [this] at h
            exact h
          cases hk : getK kvs (cell cs r a) with
          | some d' =>
            obtain ⟨q, hq, eq⟩ := h2 _ (by rw [hk]; simp)
            have e1 := h1 q hq
            rw [eq, hk] at e1
            cases e1
            simp
            refine iteI (fun e => hnx _ _ ⟨kvs, _, _, rfl, mp, hs, by omega, fun r' hr' => ?_, fun k hk' => ?_⟩) (fun e => hrt _ _ ((bad ⟨q, List.mem_of_mem_take hq, eq, e⟩).sub2 hs))
            · rw [htk] at hr'
              rcases List.mem_append.mp hr' with z | z
              · exact h1 r' z
              · rw [List.mem_singleton.mp z, hk, e]
            · obtain ⟨r', z, e'⟩ := h2 k hk'
              exact ⟨r', by rw [htk]; exact List.mem_append_left _ z, e'⟩
          | none =>
            simp
            have hM : Sub M (put mm p (.md (putD kvs (cell cs r a) (kD (cell cs r b))))) := hs.ext hp
            refine hnx _ _ ⟨_, _, _, rfl, put_same, hM, ?_, fun r' hr' => ?_, fun k hk' => ?_⟩
            · rw [putD_none hk]; simp; omega
            · rw [putD_none hk, getK_app]
              rw [htk] at hr'
              rcases List.mem_append.mp hr' with z | z
              · rw [h1 r' z]
              · rw [List.mem_singleton.mp z, hk]; simp
            · rw [putD_none hk, getK_app] at hk'
              cases hk2 : getK kvs k with
              | some x =>
                obtain ⟨r', z, e'⟩ := h2 k (by rw [hk2]; simp)
                exact ⟨r', by rw [htk]; exact List.mem_append_left _ z, e'⟩
              | none =>
                rw [hk2] at hk'
                by_cases e : cell cs r a = k
                · exact ⟨r, by rw [htk]; simp, e⟩
                · simp [e] at hk'
  · exact h.elim
theorem flat_len {α β : Type} {f : α → List β} {n : Nat} (h : ∀ a, (f a).length ≤ n) : ∀ l : List α, (l.flatMap f).length ≤ l.length * n
  | [] => by simp
  | a :: l => by
    have := flat_len h l
    have := h a
    rw [List.flatMap_cons, List.length_append, List.length_cons, Nat.add_mul]; omega
theorem allRows_len : ∀ (n : Nat) (cs : List Col), cs.length = n → (∀ c ∈ cs, c.2.length ≤ 8) → (allRows cs).length ≤ 8 ^ n
  | 0, cs, hn, _ => by obtain rfl := List.length_eq_zero_iff.mp hn; exact Nat.le_refl _
  | n + 1, cs, hn, h => by
    obtain ⟨ds, c, rfl⟩ : ∃ ds c, cs = ds ++ [c] := ⟨cs.dropLast, cs.getLast (by intro e; rw [e] at hn; cases hn), (List.dropLast_concat_getLast _).symm⟩
    have ih := allRows_len n ds (by simpa using hn) fun c hc => h c (by simp [hc])
    rw [allRows_snoc]
    have := flat_len (f := fun r : Row => c.2.map fun v => r ++ [v]) (n := 8) (fun r => by rw [List.length_map]; exact h c (by simp)) (allRows ds)
    rw [Nat.pow_succ]
    exact Nat.le_trans this (Nat.mul_le_mul_right _ ih)
theorem rows_take {cs : List Col} (hg : GoodCols 3 8 cs) {i : Nat} (hi : i < cs.length) : (allRows (cs.take i)).length ≤ 64 := by
  have h1 := hg.most
  have := allRows_len i (cs.take i) (by rw [List.length_take]; omega) fun c hc => (hg.each c (List.mem_of_mem_take hc)).most
  have : 8 ^ i ≤ 8 ^ 2 := Nat.pow_le_pow_right (by decide) (by omega)
  omega
theorem rows_few {cs : List Col} (hg : GoodCols 3 8 cs) : (allRows cs).length ≤ 512 := by
  have h1 := hg.most
  have := allRows_len cs.length cs rfl fun c hc => (hg.each c hc).most
  have : 8 ^ cs.length ≤ 8 ^ 3 := Nat.pow_le_pow_right (by decide) (by omega)
  omega
theorem p__law_rows : Imp g__law_rows (defW N__law_rows w__law_rows) := by
  intro ds M Q X h
  unfold g__law_rows at h
  split at h
  · obtain ⟨cs, rfl, hg, h⟩ := h
    have h1 := hg.most
    replace h := dropQ.self h
    have ecs : colsT cs = .tup (cs.map fun c => D.tup [.str c.1, .tup (c.2.map kD)]) := by
      unfold colsT colsD
      rw [List.map_map]; rfl
    rw [ecs]
    simp [↓defW, env0, ↓w__law_rows]
    refine loopW_ind (fun i e mm => ∃ s2 s3 s4 s5, e = [some (D.tup (cs.map fun c => D.tup [.str c.1, .tup (c.2.map kD)])), some (D.lst ((allRows (cs.take i)).map rowD)), s2, s3, s4, s5, none] ∧ mm = M) ⟨_, _, _, _, rfl, rfl⟩ (fun _ _ _ _ => trivial) ?_ ?_
    · rintro e mm ⟨s2, s3, s4, s5, rfl, rfl⟩
      simp
      exact h
    · rintro i d e mm K hd ⟨s2, s3, s4, s5, rfl, rfl⟩ hnx hct hbk hrt hxx
      rw [List.getElem?_map] at hd
      obtain ⟨c, hc, rfl⟩ := Option.map_eq_some_iff.mp hd
      have hi := (List.getElem?_eq_some_iff.mp hc).1
      have hcm := List.mem_of_getElem? hc
      have hl := rows_take hg hi
      have h8 := (hg.each c hcm).most
      have htk : allRows (cs.take (i + 1)) = (allRows (cs.take i)).flatMap fun r => c.2.map fun v => r ++ [v] := by rw [List.take_succ, hc]; exact allRows_snoc _ _
      rw [htk] at hnx
      have hRl : ∀ r ∈ allRows (cs.take i), r.length ≤ 3 := fun r hr => by
        rw [((mem_allRows _ _).mp hr).1, List.length_take]; omega
      generalize allRows (cs.take i) = R at hl hRl hnx ⊢
      simp
      refine loopW_ind (fun j e m => ∃ s5, e = [some (D.tup (cs.map fun c => D.tup [.str c.1, .tup (c.2.map kD)])), some (D.lst (R.map rowD)), some (.str c.1), some (.tup (c.2.map kD)), some (D.lst (((R.take j).flatMap fun r => c.2.map fun v => r ++ [v]).map rowD)), s5, none] ∧ m = mm) ⟨_, rfl, rfl⟩ (fun _ _ _ _ => trivial) ?_ ?_
      · rintro _ _ ⟨s5, rfl, rfl⟩
        rw [List.length_map, List.take_length]
        simp
        exact hnx _ _ ⟨_, _, _, _, rfl, rfl⟩
      · rintro j d2 _ m K2 hd2 ⟨s5, rfl, rfl⟩ hnx2 hct2 hbk2 hrt2 hxx2
        rw [List.getElem?_map] at hd2
        obtain ⟨r, hr, rfl⟩ := Option.map_eq_some_iff.mp hd2
        have hj := (List.getElem?_eq_some_iff.mp hr).1
        have e2 : (R.take (j + 1)).flatMap (fun r => c.2.map fun v => r ++ [v]) = (R.take j).flatMap (fun r => c.2.map fun v => r ++ [v]) ++ c.2.map fun v => r ++ [v] := by
          rw [List.take_succ, hr, List.flatMap_append]; simp
        have hfl := flat_len (f := fun r : Row => c.2.map fun v => r ++ [v]) (n := 8) (fun r => by rw [List.length_map]; exact h8) (R.take j)
        have : (R.take j).length ≤ 64 := by rw [List.length_take]; omega
        have hrl := hRl r (List.mem_of_getElem? hr)
        rw [e2] at hnx2
        generalize (R.take j).flatMap (fun r => c.2.map fun v => r ++ [v]) = F at hfl hnx2 ⊢
        simp
        refine wLc_mapT (l := c.2) kD (fun v => rowD (r ++ [v])) (fun R q => by simpa using q) (by omega) (fun v hv => ⟨_, rfl, fun M' hs Q' q => ?_⟩) ?_
        · simp [wipeE, rowD] at q ⊢
          exact ⟨by omega, q⟩
        · simp
          have e3 : F.map rowD ++ c.2.map (fun v => rowD (r ++ [v])) = (F ++ c.2.map fun v => r ++ [v]).map rowD := by rw [List.map_append, List.map_map]; rfl
          rw [e3]
          exact ⟨by omega, hnx2 _ _ ⟨_, rfl, rfl⟩⟩
  · exact h.elim
end FL
set_option Elab.async false
set_option linter.all false
set_option maxRecDepth 100000
set_option maxHeartbeats 400000
namespace FL
open PySem PySem.Spec PyProof.Rows L2 Evl
/-! law k04: what is broken -/
@[simp ↓] def g__law_right : Fn := fun ds M Q _ => match ds with
  | [b, t] => ∃ (bk : Bk) (tb : List Row), b = bkD bk ∧ t = tabD tb ∧ GoodBk bk ∧ tb.length = bk.many ∧ (∀ r ∈ tb, GoodRow bk.cols r) ∧ Q (.bl true) M
  | _ => False
def g_law : Fn := fun ds M Q _ => match ds with
  | [.scr ns] => ns.length ≤ 63 ∧ Q (.bl true) M
  | _ => False
/- _law_right: 0 _law_book_here 1 _law_table 2 _law_due 3 _law_told 4 _law_name 5 _law_rule_here 6 _law_row -/
abbrev N__law_right : List Str := ["_law_book_here", "_law_table", "_law_due", "_law_told", "_law_name", "_law_rule_here", "_law_row"]
def w__law_right : SS := (sSeq (sAsg (gSlot 2) (wLc false (wIt (w2 sSub1 (wSlot 0) (wC (.int 2)))) (asT [4, 5]) [4, 5] (tNot (wTest (wCall 3 g__law_keeps (aCons (w2 sSub1 (wSlot 0) (wC (.int 0))) (aCons (wSlot 5) (aCons (wSlot 1) aNil)))))) (wSlot 4)))
(sSeq (sAsg (gSlot 3) (wCall 2 g_broken (aCons (wSlot 0) (aCons (wSlot 1) aNil))))
(sSeq (sIf (tOr (tNot (wTest (wIs1 .list (wSlot 3)))) (wTest (w2 (sEq true) (wSlot 3) (wSlot 2))))
 (sSeq (sRet (wC (.bl false)))
sNil)
 sNil)
(sSeq (sExpr (wM "list" mAppend (wSlot 3) (aCons (wC (.str "odd")) aNil)))
(sSeq (sFor (wIt (w2 sSub1 (wSlot 0) (wC (.int 2)))) (gTuple [4, 5])
 (sSeq (sIf (tNot (wTest (wCall 2 g__law_says (aCons (wCall 3 g_table_keeps (aCons (w2 sSub1 (wSlot 0) (wC (.int 0))) (aCons (wSlot 5) (aCons (wSlot 1) aNil)))) (aCons (w2 (sInD true) (wSlot 4) (wSlot 2)) aNil)))))
 (sSeq (sRet (wC (.bl false)))
sNil)
 sNil)
(sSeq (sIf (wTest (w2 (sInD false) (w2 sSub1 (wSlot 5) (wC (.int 0))) (wF sTup (aCons (wC (.str "less")) (aCons (wC (.str "same")) (aCons (wC (.str "apart")) (aCons (wC (.str "if")) (aCons (wC (.str "only")) aNil))))))))
 (sSeq (lockIt 1 (sFor (wIt (wSlot 1)) (gSlot 6)
 (sSeq (sIf (tNot (wTest (wCall 2 g__law_says (aCons (wCall 3 g_row_keeps (aCons (w2 sSub1 (wSlot 0) (wC (.int 0))) (aCons (wSlot 5) (aCons (wSlot 6) aNil)))) (aCons (wCall 3 g__law_row_keeps (aCons (w2 sSub1 (wSlot 0) (wC (.int 0))) (aCons (wSlot 5) (aCons (wSlot 6) aNil)))) aNil)))))
 (sSeq (sRet (wC (.bl false)))
sNil)
 sNil)
sNil)))
sNil)
 sNil)
sNil)))
(sSeq (sRet (w2 (sEq false) (wCall 2 g_broken (aCons (wSlot 0) (aCons (wSlot 1) aNil))) (wSlot 2)))
sNil))))))
/- law: 0 _law_script 1 _law_k 2 _law_well_here 3 _law_book_here 4 _law_rows_here 5 _law_turn 6 _law_few 7 _law_table 8 _law_row -/
abbrev N_law : List Str := ["_law_script", "_law_k", "_law_well_here", "_law_book_here", "_law_rows_here", "_law_turn", "_law_few", "_law_table", "_law_row"]
def w_law_10 : SS := (sSeq (sRet (wC (.bl true)))
sNil)
def w_law_8 : SS := (sSeq (sIf (tOr (tNot (wTest (wCall 2 g__law_right (aCons (wSlot 3) (aCons (wF sTuple (aCons (wSlot 7) aNil)) aNil))))) (tNot (wTest (wCall 2 g__law_right (aCons (wSlot 3) (aCons (wF sTuple (aCons (wF (sSortedA false) (aCons (wSlot 7) aNil)) aNil)) aNil))))))
 (sSeq (sRet (wC (.bl false)))
sNil)
 sNil)
sNil)
def w_law_7 : SS := (sSeq (sAsg (gSlot 7) (wLc false (wRange1 (aCons (w2 sSub1 (wSlot 3) (wC (.int 1))) aNil)) (asT1 8) [8] tTrue (w2 sSub1 (wSlot 6) (wCall 2 g__law_take (aCons (wSlot 2) (aCons (wF sLen (aCons (wSlot 6) aNil)) aNil))))))
w_law_8)
def w_law_6 : SS := (sSeq (sAsg (gSlot 6) (w2 sSub1 (wF (sLst false) (aCons (wSlot 4) (aCons (wCut false (wSlot 4) none (some (w2 (sAdd false) (wC (.int 1)) (wCall 2 g__law_take (aCons (wSlot 2) (aCons (wC (.int 4)) aNil)))))) aNil))) (wCall 2 g__law_take (aCons (wSlot 2) (aCons (wC (.int 2)) aNil)))))
w_law_7)
def w_law_5 : SS := (sSeq (sFor (wRange1 (aCons (wC (.int 6)) aNil)) (gSlot 5)
 w_law_6)
sNil)
def w_law_4 : SS := (sSeq (sAsg (gSlot 4) (wCall 1 g__law_rows (aCons (w2 sSub1 (wSlot 3) (wC (.int 0))) aNil)))
w_law_5)
def w_law_3 : SS := (sSeq (sAsg (gSlot 3) (wCall 5 g__law_book (aCons (wSlot 2) (aCons (wC (.int 3)) (aCons (w2 sSub1 (wF (sLst false) (aCons (wC (.int 3)) (aCons (wC (.int 8)) aNil))) (wCall 2 g__law_take (aCons (wSlot 2) (aCons (wC (.int 2)) aNil)))) (aCons (wC (.int 8)) (aCons (wC (.int 5)) aNil)))))))
w_law_4)
def w_law_2 : SS := (sSeq (sAsg (gSlot 2) (wCall 2 g__law_well (aCons (wSlot 0) (aCons (wSlot 1) aNil))))
w_law_3)
def w_law : SS := (sSeq (sFor (wRange1 (aCons (wF sMax2 (aCons (wC (.int 1)) (aCons (wF sMin2 (aCons (wC (.int 16)) (aCons (wF sLen (aCons (wSlot 0) aNil)) aNil))) aNil))) aNil)) (gSlot 1)
 w_law_2)
w_law_10)
@[simp ↓ high] theorem sub_bk0 {b : Bk} {M : Mem} {Q : QE} : sSub1 (bkD b) (.int 0) M Q = Q (colsT b.cols) M := by simp [bkD]
@[simp ↓ high] theorem sub_bk1 {b : Bk} {M : Mem} {Q : QE} : sSub1 (bkD b) (.int 1) M Q = Q (.int (b.many : Nat)) M := by simp [bkD]
@[simp ↓ high] theorem sub_bk2 {b : Bk} {M : Mem} {Q : QE} : sSub1 (bkD b) (.int 2) M Q = Q (.tup (b.rules.map fun e => .tup [.str e.1, rlD e.2])) M := by simp [bkD, rulesT]
theorem row_word {r : Rl} : inD (.str (rlW r)) [.str "less", .str "same", .str "apart", .str "if", .str "only"] = isRowRl r := by
  cases r <;> simp [rlW, isRowRl]
theorem names_nd {b : Bk} (h : GoodBk b) : ∀ e ∈ b.rules, ∀ f ∈ b.rules, e.1 = f.1 → e = f := by
  have hn : (b.rules.map (·.1)).Nodup := List.pairwise_map.mpr (h.rise.imp fun {a c} q e => by
    have : ltS a.1 c.1 = true := q
    rw [e, ltS_irr] at this; cases this)
  intro e he f hf q
  exact map_inj_nd hn he hf q
theorem in_broken {b : Bk} (h : GoodBk b) {t : List Row} {e : Str × Rl} (he : e ∈ b.rules) : e.1 ∈ brokenT b t ↔ tabKeeps b.cols t e.2 = false := by
  unfold brokenT
  rw [List.mem_map]
  constructor
  · rintro ⟨f, hf, q⟩
    obtain ⟨h1, h2⟩ := List.mem_filter.mp hf
    rw [names_nd h f h1 e he q] at h2
    simpa using h2
  · intro q
    exact ⟨e, List.mem_filter.mpr ⟨he, by simp [q]⟩, rfl⟩
theorem inD_strs {z : Str} {l : List Str} : inD (.str z) (l.map .str) = decide (z ∈ l) := by
  have := inD_kD (.inr z) (l.map .inr)
  rw [List.map_map] at this
  rw [show l.map D.str = List.map (kD ∘ Sum.inr) l from rfl]
  rw [show D.str z = kD (.inr z) from rfl, this, decide_eq_decide]
  exact ⟨fun h => by obtain ⟨y, hy, e⟩ := List.mem_map.mp h; exact Sum.inr.inj e ▸ hy, fun h => List.mem_map.mpr ⟨z, h, rfl⟩⟩
theorem eqDs_strs {l m : List Str} : eqDs (l.map .str) (m.map .str) = decide (l = m) := by
  rw [show l.map D.str = (l.map Sum.inr).map kD by rw [List.map_map]; rfl, show m.map D.str = (m.map Sum.inr).map kD by rw [List.map_map]; rfl, eqDs_kD, decide_eq_decide]
  exact List.map_inj_right fun _ _ z => Sum.inr.inj z
theorem deps_strs {l : List Str} : deps (l.map .str) ≤ 60 := by
  rw [show l.map D.str = (l.map Sum.inr).map kD by rw [List.map_map]; rfl]
  exact deps_kD _
theorem p__law_right : Imp g__law_right (defW N__law_right w__law_right) := by
  intro ds M Q X h
  unfold g__law_right at h
  split at h
  · obtain ⟨bk, tb, rfl, rfl, hb, hl, ht, h⟩ := h
    replace h := dropQ.self h
    have hm := hb.many
    have hf := hb.few
    rw [show tabD tb = .tup (tb.map rowD) from rfl]
    simp [↓defW, env0, ↓w__law_right]
    refine wLc_T (l := bk.rules) (fun e => .tup [.str e.1, rlD e.2]) (fun e => .str e.1) (fun e => !tabKeeps bk.cols tb e.2) (fun R q => by simpa [bkD, rulesT] using q) (by omega) (fun e he => ⟨_, by simp [asT, asTs, wipeE]; rfl, fun M' hs => ⟨fun R q => ?_, fun _ R q => by simpa [wipeE] using q⟩⟩) ?_
    · simp [wipeE, bkD]
      exact ⟨tb, rfl, hb.cols, by rw [hl]; exact hb.rules e he, by omega, ht, q⟩
    · have e1 : (bk.rules.filter fun e => !tabKeeps bk.cols tb e.2).map (fun e => D.str e.1) = (brokenT bk tb).map .str := by unfold brokenT; rw [List.map_map]; rfl
      have hbl : (brokenT bk tb).length ≤ 12 := by unfold brokenT; rw [List.length_map]; exact Nat.le_trans (List.length_filter_le _ _) hf
      rw [e1]
      simp
      refine ⟨tb, rfl, hb, hl, ht, fun a ha => ?_⟩
      have hd := deps_strs (l := brokenT bk tb)
      simp [isTy, tyOf, deref_ptr, put_same, eqDs_strs]
      refine ⟨by omega, _, _, ⟨rfl, rfl⟩, by rw [List.length_map]; omega, ?_⟩
      rw [put_put]
      generalize hm3 : put M a (MO.ml ((brokenT bk tb).map D.str ++ [D.str (Str.ofString "odd")])) = M3
      have hM3 : Sub M M3 := by rw [← hm3]; exact Sub.new ha
      refine loopW_ind (fun i e mm => ∃ s4 s5 s6, e = [some (bkD bk), some (D.tup (tb.map rowD)), some (D.lst ((brokenT bk tb).map D.str)), some (D.ptr a), s4, s5, s6] ∧ mm = M3) ⟨_, _, _, rfl, rfl⟩ (fun _ _ _ _ => trivial) ?_ ?_
      · rintro e mm ⟨s4, s5, s6, rfl, rfl⟩
        simp
        refine ⟨tb, rfl, hb, hl, ht, fun a2 ha2 => ?_⟩
        simp [deref_ptr, put_same, eqDs_strs]
        exact ⟨by omega, h.sub2 (hM3.trans (Sub.new ha2))⟩
      · rintro i d e mm K hd ⟨s4, s5, s6, rfl, rfl⟩ hnx hct hbk hrt hxx
        rw [List.getElem?_map] at hd
        obtain ⟨e, he, rfl⟩ := Option.map_eq_some_iff.mp hd
        have hem := List.mem_of_getElem? he
        have hgr := hb.rules e hem
        obtain ⟨ps, eps⟩ : ∃ ps, rlD e.2 = .tup (.str (rlW e.2) :: ps) := ⟨_, rfl⟩
        rw [eps]
        simp [inD_strs]
        refine ⟨e.2, eps.symm, tb, rfl, hb.cols, by rw [hl]; exact hgr, by omega, ht, ?_⟩
        rw [if_neg (by
          intro q
          have := in_broken hb (t := tb) hem
          cases hk : tabKeeps bk.cols tb e.2 with
          | true => rw [hk] at q this; simp [this] at q
          | false => rw [hk] at q this; simp [this] at q)]
        refine iteI (fun hw => ?_) (fun _ => hnx _ _ ⟨_, _, _, rfl, rfl⟩)
        have hrow : isRowRl e.2 = true := by
          rw [← row_word]
          rcases hw with z | z | z | z | z <;> simp [← z]
        refine loopW_ind (fun j e2 m => ∃ s6, e2 = [some (bkD bk), some (D.tup (tb.map rowD)), some (D.lst ((brokenT bk tb).map D.str)), some (D.ptr a), some (D.str e.1), some (D.tup (D.str (rlW e.2) :: ps)), s6] ∧ m = mm) ⟨_, rfl, rfl⟩ (fun _ _ _ _ => trivial) ?_ ?_
        · rintro _ _ ⟨s6, rfl, rfl⟩
          simp
          exact hnx _ _ ⟨_, _, _, rfl, rfl⟩
        · rintro j d2 _ m K2 hd2 ⟨s6, rfl, rfl⟩ hnx2 hct2 hbk2 hrt2 hxx2
          rw [List.getElem?_map] at hd2
          obtain ⟨r, hr, rfl⟩ := Option.map_eq_some_iff.mp hd2
          have hgr2 := ht r (List.mem_of_getElem? hr)
          simp
          refine ⟨_, e.2, eps.symm, hb.cols, hgr, hrow, hgr2, _, e.2, eps.symm, hb.cols, hgr, hrow, hgr2, ?_⟩
          simp
          exact hnx2 _ _ ⟨_, rfl, rfl⟩
  · exact h.elim
theorem rows_some {cs : List Col} (hg : GoodCols 3 8 cs) : 1 ≤ (allRows cs).length := by
  have go : ∀ (n : Nat) (cs : List Col), cs.length = n → (∀ c ∈ cs, 1 ≤ c.2.length) → 1 ≤ (allRows cs).length := by
    intro n
    induction n with
    | zero => intro cs hn _; obtain rfl := List.length_eq_zero_iff.mp hn; exact Nat.le_refl _
    | succ n ih =>
      intro cs hn h
      obtain ⟨ds, c, rfl⟩ : ∃ ds c, cs = ds ++ [c] := ⟨cs.dropLast, cs.getLast (by intro e; rw [e] at hn; cases hn), (List.dropLast_concat_getLast _).symm⟩
      have h1 := ih ds (by simpa using hn) fun c hc => h c (by simp [hc])
      have h2 := h c (by simp)
      rw [allRows_snoc]
      cases hR : allRows ds with
      | nil => rw [hR] at h1; simp at h1
      | cons r t =>
        rw [List.flatMap_cons, List.length_append, List.length_map]
        omega
  exact go cs.length cs rfl fun c hc => (hg.each c hc).some
theorem tab_of {cs : List Col} : ∀ acc : List D, (∀ r ∈ acc, ∃ q ∈ allRows cs, r = rowD q) → ∃ tb : List Row, acc = tb.map rowD ∧ ∀ r ∈ tb, GoodRow cs r
  | [], _ => ⟨[], rfl, fun _ z => nomatch z⟩
  | d :: acc, h => by
    obtain ⟨tb, e, ht⟩ := tab_of acc fun r hr => h r (List.mem_cons_of_mem _ hr)
    obtain ⟨q, hq, rfl⟩ := h d List.mem_cons_self
    refine ⟨q :: tb, by rw [e]; rfl, fun r hr => ?_⟩
    rcases List.mem_cons.mp hr with rfl | hr
    · exact (mem_allRows _ _).mp hq
    · exact ht r hr
def kindAt (cs : List Col) (i : Nat) : Bool := match cs[i]? with
  | some c => !isNum (c.2.getD 0 (.inl 0))
  | none => false
theorem row_kinds {cs : List Col} (hg : GoodCols 3 8 cs) {r : Row} (h : GoodRow cs r) : ∃ k, tkeyOf (rowD r) = some k ∧ k ≠ [] ∧ ∀ i x, k[i]? = some x → kindAt cs i = x.isRight := by
  refine ⟨r, ?_, ?_, fun i x hx => ?_⟩
  · unfold tkeyOf rowD
    dsimp only
    rw [if_pos (by rw [List.all_map, List.all_eq_true]; intro k _; simp)]
    rw [List.filterMap_map, show (keyOf ∘ kD) = fun k => some k from funext keyOf_kD]
    simp
  · intro e
    have := h.1
    rw [e] at this
    have := hg.some
    simp at *
    omega
  · have i1 := (List.getElem?_eq_some_iff.mp hx).1
    have i2 : i < cs.length := by rw [← h.1]; exact i1
    have hm := h.2 i cs[i] x (List.getElem?_eq_getElem i2) hx
    have g := hg.each cs[i] (List.getElem_mem i2)
    have hs := g.some
    have hk := g.kind (cs[i].2.getD 0 (.inl 0)) (by rw [List.getD_eq_getElem?_getD, List.getElem?_eq_getElem (show 0 < cs[i].2.length by omega)]; exact List.getElem_mem _) x hm
    unfold kindAt
    rw [List.getElem?_eq_getElem i2]
    dsimp only
    rw [hk]
    cases x <;> rfl
theorem law04_turn {ns : List Int} {i : Nat} {a : Addr} {mm : Mem} {bk : Bk} {s5 s6 s7 s8 : Option D} {K : Out → Prop} (hb : GoodBk bk) (hm : mm a = some .well)
    (hnx : ∀ s5 s6 s7 s8, K (.nx [some (D.scr ns), some (D.int (i : Nat)), some (D.ptr a), some (bkD bk), some (D.lst ((allRows bk.cols).map rowD)), s5, s6, s7, s8] mm)) :
    w_law_5 [some (D.scr ns), some (D.int (i : Nat)), some (D.ptr a), some (bkD bk), some (D.lst ((allRows bk.cols).map rowD)), s5, s6, s7, s8] mm K := by
  have h8 := hb.many
  have hR := rows_few hb.cols
  have hR1 := rows_some hb.cols
  simp [↓w_law_5]
  refine loopW_ind (fun j e m => ∃ s5 s6 s7 s8, e = [some (D.scr ns), some (D.int (i : Nat)), some (D.ptr a), some (bkD bk), some (D.lst ((allRows bk.cols).map rowD)), s5, s6, s7, s8] ∧ m = mm) ⟨_, _, _, _, rfl, rfl⟩ (fun _ _ _ _ => trivial) ?_ ?_
  · rintro _ _ ⟨s5, s6, s7, s8, rfl, rfl⟩
    simp
    exact hnx _ _ _ _
  · rintro j d _ m K2 hd ⟨s5, s6, s7, s8, rfl, rfl⟩ hnx2 hct2 hbk2 hrt2 hxx2
    simp [↓w_law_6, hm]
    intro x x0 x1 y y0 y1
    obtain ⟨F, hF1, hF2, hF4, hF3⟩ : ∃ F : List Row, (∀ r ∈ F, r ∈ allRows bk.cols) ∧ 1 ≤ F.length ∧ F.length ≤ 512 ∧ atI [D.lst ((allRows bk.cols).map rowD), D.lst (cutD ((allRows bk.cols).map rowD) none (some (1 + x)))] y = some (D.lst (F.map rowD)) := by
      obtain rfl | rfl : y = 0 ∨ y = 1 := by omega
      · exact ⟨_, fun _ h => h, hR1, hR, atI_0⟩
      · refine ⟨(allRows bk.cols).take (1 + x).toNat, fun r hr => List.mem_of_mem_take hr, by rw [List.length_take]; omega, by rw [List.length_take]; omega, ?_⟩
        have e1 : (1 + x) = (((1 + x).toNat : Nat) : Int) := by omega
        have e2 := cutD_to (xs := (allRows bk.cols).map rowD) (n := (1 + x).toNat)
        rw [← e1] at e2
        rw [atI_1, e2, ← List.map_take]
    refine ⟨_, hF3, ?_⟩
    simp [↓w_law_7]
    refine wLc_each (fun r => ∃ q ∈ allRows bk.cols, r = rowD q) (ds := upFrom 0 bk.many) (fun R q => by simp; exact ⟨by omega, q⟩) (by rw [upFrom_len]; omega) (fun d' M' RT hd' hs' hT => ⟨_, rfl, ?_⟩) (fun acc hl ha => ?_)
    · simp [wipeE, hs' _ _ hm]
      refine ⟨by omega, by omega, fun i i0 i1 => ?_⟩
      obtain ⟨v, hv, ev⟩ := atI_pick (ds := F.map rowD) (i := i) i0 (by simpa using i1)
      obtain ⟨r, hr, rfl⟩ := List.mem_map.mp hv
      exact ⟨_, ev, hT _ ⟨r, hF1 r hr, rfl⟩⟩
    · obtain ⟨tb, rfl, htb⟩ := tab_of acc ha
      rw [upFrom_len, List.length_map] at hl
      simp [↓w_law_8]
      refine ⟨tb, rfl, hb, hl, htb, .inr (.inr ⟨⟨kindAt bk.cols, fun r hr => row_kinds hb.cols (htb r hr)⟩, fun ys hp => ?_⟩)⟩
      obtain ⟨tb2, rfl, htb2⟩ := tab_of (cs := bk.cols) ys fun r hr => by
        obtain ⟨q, hq, rfl⟩ := List.mem_map.mp (hp.mem_iff.mp hr)
        exact ⟨q, (mem_allRows _ _).mpr (htb q hq), rfl⟩
      have hl2 := hp.length_eq
      rw [List.length_map, List.length_map] at hl2
      exact ⟨tb2, rfl, hb, by omega, htb2, hnx2 _ _ ⟨_, _, _, _, rfl, rfl⟩⟩
theorem p_law_k04 : Imp g_law (defW N_law w_law) := by
  intro ds M Q X h
  unfold g_law at h
  split at h
  · rename_i ns
    obtain ⟨hn, h⟩ := h
    replace h := dropQ.self h
    simp [↓defW, env0, ↓w_law]
    refine ⟨by omega, by omega, ?_⟩
    refine loopW_ind (fun i e mm => ∃ s1 s2 s3 s4 s5 s6 s7 s8, e = [some (.scr ns), s1, s2, s3, s4, s5, s6, s7, s8] ∧ Sub M mm) ⟨_, _, _, _, _, _, _, _, rfl, Sub.refl⟩ (fun _ _ _ _ => trivial) ?_ ?_
    · rintro _ mm ⟨s1, s2, s3, s4, s5, s6, s7, s8, rfl, hs⟩
      simp [↓w_law_10]
      exact h.sub2 hs
    · rintro i d e mm K hd ⟨s1, s2, s3, s4, s5, s6, s7, s8, rfl, hs⟩ hnx hct hbk hrt hxx
      have hi := (List.getElem?_eq_some_iff.mp hd).1
      rw [upFrom_len] at hi
      rw [upFrom_get hi] at hd
      cases hd
      have hi2 : i < 16 := by
        split at hi <;> (try split at hi) <;> omega
      simp [↓w_law_2]
      refine ⟨by omega, fun a ha => ?_⟩
      simp [↓w_law_3]
      intro i1 i10 i11
      obtain ⟨lx, hlx, el⟩ : ∃ lx : Int, (lx = 3 ∨ lx = 8) ∧ atI [D.int 3, D.int 8] i1 = some (.int lx) := by
        obtain rfl | rfl : i1 = 0 ∨ i1 = 1 := by omega
        · exact ⟨3, .inl rfl, atI_0⟩
        · exact ⟨8, .inr rfl, atI_1⟩
      refine ⟨_, el, ?_⟩
      simp
      refine ⟨by omega, by omega, fun bk hb hmany => ?_⟩
      simp [↓w_law_4]
      refine ⟨hb.cols, ?_⟩
      exact law04_turn hb put_same fun s5 s6 s7 s8 => hnx _ _ ⟨_, _, _, _, _, _, _, _, rfl, hs.ext (hs.none ha)⟩
  · exact h.elim
end FL
set_option Elab.async false
set_option linter.all false
set_option maxRecDepth 100000
set_option maxHeartbeats 0
namespace K
open PySem PySem.Spec PyProof.Rows L2 Evl FL
def top (i : Nat) : Stmt := PySem.Challenge.pw_rowmint_k04_what_is_broken.main.body.getD i (.Pass ⟨0, 0, 0, 0⟩)
def xs : List Str := ["MintError", "NoBook", "NoColumn", "NoTable"]
abbrev s_spot_of : Stmt := top 17
abbrev ps_spot_of : List Str := ["columns", "name"]
theorem sc_spot_of : FnScope N_spot_of ps_spot_of (defScope s_spot_of) := ⟨rfl, rfl, rfl, by decide +kernel, rfl, by decide +kernel, by decide +kernel⟩
theorem bn_spot_of : Bnd "spot_of" s_spot_of ps_spot_of := fun _ _ _ _ _ _ us hl => match us, hl with | [_, _], _ => rfl
def d_spot_of : He.DefD := ⟨("spot_of", none), "spot_of", "spot_of", defArgs s_spot_of, defBody s_spot_of, defScope s_spot_of, [], []⟩
def c_spot_of : FL.Ctx := ⟨N_spot_of, defScope s_spot_of, tbl [], tbl [], tbl [], fun p => decide (p ∈ ([] : List Pos)), fun p => decide (p ∈ ([] : List Pos)), true, xs, tbl ([] : List (Str × (Str → D))), none⟩
theorem e_spot_of : evB 200 (c_spot_of) (defBody s_spot_of) = w_spot_of := by kernel_rfl
abbrev s_values_of : Stmt := top 19
abbrev ps_values_of : List Str := ["columns", "name"]
theorem sc_values_of : FnScope N_values_of ps_values_of (defScope s_values_of) := ⟨rfl, rfl, rfl, by decide +kernel, rfl, by decide +kernel, by decide +kernel⟩
theorem bn_values_of : Bnd "values_of" s_values_of ps_values_of := fun _ _ _ _ _ _ us hl => match us, hl with | [_, _], _ => rfl
def d_values_of : He.DefD := ⟨("values_of", none), "values_of", "values_of", defArgs s_values_of, defBody s_values_of, defScope s_values_of, [], []⟩
def c_values_of : FL.Ctx := ⟨N_values_of, defScope s_values_of, tbl [("spot_of", (2, g_spot_of))], tbl [], tbl [], fun p => decide (p ∈ ([] : List Pos)), fun p => decide (p ∈ ([] : List Pos)), true, [], tbl ([] : List (Str × (Str → D))), none⟩
theorem e_values_of : evB 200 (c_values_of) (defBody s_values_of) = w_values_of := by kernel_rfl
abbrev s_row_keeps : Stmt := top 31
abbrev ps_row_keeps : List Str := ["columns", "rule", "row"]
theorem sc_row_keeps : FnScope N_row_keeps ps_row_keeps (defScope s_row_keeps) := ⟨rfl, rfl, rfl, by decide +kernel, rfl, by decide +kernel, by decide +kernel⟩
theorem bn_row_keeps : Bnd "row_keeps" s_row_keeps ps_row_keeps := fun _ _ _ _ _ _ us hl => match us, hl with | [_, _, _], _ => rfl
def d_row_keeps : He.DefD := ⟨("row_keeps", none), "row_keeps", "row_keeps", defArgs s_row_keeps, defBody s_row_keeps, defScope s_row_keeps, [], []⟩
def c_row_keeps : FL.Ctx := ⟨N_row_keeps, defScope s_row_keeps, tbl [("spot_of", (2, g_spot_of))], tbl [], tbl [], fun p => decide (p ∈ ([] : List Pos)), fun p => decide (p ∈ ([] : List Pos)), true, [], tbl ([] : List (Str × (Str → D))), none⟩
theorem e_row_keeps : evB 200 (c_row_keeps) (defBody s_row_keeps) = w_row_keeps := by kernel_rfl
abbrev s_table_keeps : Stmt := top 32
abbrev ps_table_keeps : List Str := ["columns", "rule", "table"]
theorem sc_table_keeps : FnScope N_table_keeps ps_table_keeps (defScope s_table_keeps) := ⟨rfl, rfl, rfl, by decide +kernel, rfl, by decide +kernel, by decide +kernel⟩
theorem bn_table_keeps : Bnd "table_keeps" s_table_keeps ps_table_keeps := fun _ _ _ _ _ _ us hl => match us, hl with | [_, _, _], _ => rfl
def d_table_keeps : He.DefD := ⟨("table_keeps", none), "table_keeps", "table_keeps", defArgs s_table_keeps, defBody s_table_keeps, defScope s_table_keeps, [], []⟩
def c_table_keeps : FL.Ctx := ⟨N_table_keeps, defScope s_table_keeps, tbl [("spot_of", (2, g_spot_of)), ("values_of", (2, g_values_of)), ("row_keeps", (3, g_row_keeps))], tbl [("ROW_WORDS", .tup ((["less", "same", "apart", "if", "only"] : List Str).map D.str))], tbl [], fun p => decide (p ∈ ([] : List Pos)), fun p => decide (p ∈ ([] : List Pos)), true, [], tbl ([] : List (Str × (Str → D))), none⟩
theorem e_table_keeps : evB 200 (c_table_keeps) (defBody s_table_keeps) = w_table_keeps := by kernel_rfl
abbrev s_is_value : Stmt := top 20
abbrev ps_is_value : List Str := ["columns", "name", "thing"]
theorem sc_is_value : FnScope N_is_value ps_is_value (defScope s_is_value) := ⟨rfl, rfl, rfl, by decide +kernel, rfl, by decide +kernel, by decide +kernel⟩
theorem bn_is_value : Bnd "is_value" s_is_value ps_is_value := fun _ _ _ _ _ _ us hl => match us, hl with | [_, _, _], _ => rfl
def d_is_value : He.DefD := ⟨("is_value", none), "is_value", "is_value", defArgs s_is_value, defBody s_is_value, defScope s_is_value, [], []⟩
def c_is_value : FL.Ctx := ⟨N_is_value, defScope s_is_value, tbl [("values_of", (2, g_values_of))], tbl [], tbl [], fun p => decide (p ∈ ([] : List Pos)), fun p => decide (p ∈ ([] : List Pos)), true, [], tbl ([] : List (Str × (Str → D))), none⟩
theorem e_is_value : evB 200 (c_is_value) (defBody s_is_value) = w_is_value := by kernel_rfl
abbrev s_is_row : Stmt := top 22
abbrev ps_is_row : List Str := ["columns", "thing"]
theorem sc_is_row : FnScope N_is_row ps_is_row (defScope s_is_row) := ⟨rfl, rfl, rfl, by decide +kernel, rfl, by decide +kernel, by decide +kernel⟩
theorem bn_is_row : Bnd "is_row" s_is_row ps_is_row := fun _ _ _ _ _ _ us hl => match us, hl with | [_, _], _ => rfl
def d_is_row : He.DefD := ⟨("is_row", none), "is_row", "is_row", defArgs s_is_row, defBody s_is_row, defScope s_is_row, [], []⟩
def c_is_row : FL.Ctx := ⟨N_is_row, defScope s_is_row, tbl [("is_value", (3, g_is_value))], tbl [], tbl [], fun p => decide (p ∈ ([] : List Pos)), fun p => decide (p ∈ ([] : List Pos)), true, [], tbl ([] : List (Str × (Str → D))), none⟩
theorem e_is_row : evB 200 (c_is_row) (defBody s_is_row) = w_is_row := by kernel_rfl
abbrev s_rise : Stmt := top 13
abbrev ps_rise : List Str := ["some"]
theorem sc_rise : FnScope N_rise ps_rise (defScope s_rise) := ⟨rfl, rfl, rfl, by decide +kernel, rfl, by decide +kernel, by decide +kernel⟩
theorem bn_rise : Bnd "rise" s_rise ps_rise := fun _ _ _ _ _ _ us hl => match us, hl with | [_], _ => rfl
def d_rise : He.DefD := ⟨("rise", none), "rise", "rise", defArgs s_rise, defBody s_rise, defScope s_rise, [], []⟩
def c_rise : FL.Ctx := ⟨N_rise, defScope s_rise, tbl [], tbl [], tbl [], fun p => decide (p ∈ ([] : List Pos)), fun p => decide (p ∈ ([] : List Pos)), true, [], tbl ([] : List (Str × (Str → D))), none⟩
theorem e_rise : evB 200 (c_rise) (defBody s_rise) = w_rise := by kernel_rfl
abbrev s_is_whole : Stmt := top 12
abbrev ps_is_whole : List Str := ["thing", "low", "high"]
theorem sc_is_whole : FnScope N_is_whole ps_is_whole (defScope s_is_whole) := ⟨rfl, rfl, rfl, by decide +kernel, rfl, by decide +kernel, by decide +kernel⟩
theorem bn_is_whole : Bnd "is_whole" s_is_whole ps_is_whole := fun _ _ _ _ _ _ us hl => match us, hl with | [_, _, _], _ => rfl
def d_is_whole : He.DefD := ⟨("is_whole", none), "is_whole", "is_whole", defArgs s_is_whole, defBody s_is_whole, defScope s_is_whole, [], []⟩
def c_is_whole : FL.Ctx := ⟨N_is_whole, defScope s_is_whole, tbl [], tbl [], tbl [], fun p => decide (p ∈ ([] : List Pos)), fun p => decide (p ∈ ([] : List Pos)), true, [], tbl ([] : List (Str × (Str → D))), none⟩
theorem e_is_whole : evB 200 (c_is_whole) (defBody s_is_whole) = w_is_whole := by kernel_rfl
abbrev s_has_numbers : Stmt := top 21
abbrev ps_has_numbers : List Str := ["columns", "name"]
theorem sc_has_numbers : FnScope N_has_numbers ps_has_numbers (defScope s_has_numbers) := ⟨rfl, rfl, rfl, by decide +kernel, rfl, by decide +kernel, by decide +kernel⟩
theorem bn_has_numbers : Bnd "has_numbers" s_has_numbers ps_has_numbers := fun _ _ _ _ _ _ us hl => match us, hl with | [_, _], _ => rfl
def d_has_numbers : He.DefD := ⟨("has_numbers", none), "has_numbers", "has_numbers", defArgs s_has_numbers, defBody s_has_numbers, defScope s_has_numbers, [], []⟩
def c_has_numbers : FL.Ctx := ⟨N_has_numbers, defScope s_has_numbers, tbl [("values_of", (2, g_values_of))], tbl [], tbl [], fun p => decide (p ∈ ([] : List Pos)), fun p => decide (p ∈ ([] : List Pos)), true, [], tbl ([] : List (Str × (Str → D))), none⟩
theorem e_has_numbers : evB 200 (c_has_numbers) (defBody s_has_numbers) = w_has_numbers := by kernel_rfl
abbrev s_are_some : Stmt := top 27
abbrev ps_are_some : List Str := ["columns", "name", "thing"]
theorem sc_are_some : FnScope N_are_some ps_are_some (defScope s_are_some) := ⟨rfl, rfl, rfl, by decide +kernel, rfl, by decide +kernel, by decide +kernel⟩
theorem bn_are_some : Bnd "are_some" s_are_some ps_are_some := fun _ _ _ _ _ _ us hl => match us, hl with | [_, _, _], _ => rfl
def d_are_some : He.DefD := ⟨("are_some", none), "are_some", "are_some", defArgs s_are_some, defBody s_are_some, defScope s_are_some, [], []⟩
def c_are_some : FL.Ctx := ⟨N_are_some, defScope s_are_some, tbl [("rise", (1, g_rise)), ("is_value", (3, g_is_value))], tbl [], tbl [], fun p => decide (p ∈ ([] : List Pos)), fun p => decide (p ∈ ([] : List Pos)), true, [], tbl ([] : List (Str × (Str → D))), none⟩
theorem e_are_some : evB 200 (c_are_some) (defBody s_are_some) = w_are_some := by kernel_rfl
abbrev s_is_of_one : Stmt := top 29
abbrev ps_is_of_one : List Str := ["columns", "many", "rule"]
theorem sc_is_of_one : FnScope N_is_of_one ps_is_of_one (defScope s_is_of_one) := ⟨rfl, rfl, rfl, by decide +kernel, rfl, by decide +kernel, by decide +kernel⟩
theorem bn_is_of_one : Bnd "is_of_one" s_is_of_one ps_is_of_one := fun _ _ _ _ _ _ us hl => match us, hl with | [_, _, _], _ => rfl
def d_is_of_one : He.DefD := ⟨("is_of_one", none), "is_of_one", "is_of_one", defArgs s_is_of_one, defBody s_is_of_one, defScope s_is_of_one, [], []⟩
def c_is_of_one : FL.Ctx := ⟨N_is_of_one, defScope s_is_of_one, tbl [("is_whole", (3, g_is_whole)), ("is_value", (3, g_is_value)), ("has_numbers", (2, g_has_numbers)), ("are_some", (3, g_are_some))], tbl [("MOST_SUM", .int 999)], tbl [], fun p => decide (p ∈ ([] : List Pos)), fun p => decide (p ∈ ([] : List Pos)), true, [], tbl ([] : List (Str × (Str → D))), none⟩
theorem e_is_of_one : evB 200 (c_is_of_one) (defBody s_is_of_one) = w_is_of_one := by kernel_rfl
abbrev s_has_column : Stmt := top 18
abbrev ps_has_column : List Str := ["columns", "name"]
theorem sc_has_column : FnScope N_has_column ps_has_column (defScope s_has_column) := ⟨rfl, rfl, rfl, by decide +kernel, rfl, by decide +kernel, by decide +kernel⟩
theorem bn_has_column : Bnd "has_column" s_has_column ps_has_column := fun _ _ _ _ _ _ us hl => match us, hl with | [_, _], _ => rfl
def d_has_column : He.DefD := ⟨("has_column", none), "has_column", "has_column", defArgs s_has_column, defBody s_has_column, defScope s_has_column, [], []⟩
def c_has_column : FL.Ctx := ⟨N_has_column, defScope s_has_column, tbl [], tbl [], tbl [], fun p => decide (p ∈ ([] : List Pos)), fun p => decide (p ∈ ([] : List Pos)), true, [], tbl ([] : List (Str × (Str → D))), none⟩
theorem e_has_column : evB 200 (c_has_column) (defBody s_has_column) = w_has_column := by kernel_rfl
abbrev s_is_of_two : Stmt := top 28
abbrev ps_is_of_two : List Str := ["columns", "rule"]
theorem sc_is_of_two : FnScope N_is_of_two ps_is_of_two (defScope s_is_of_two) := ⟨rfl, rfl, rfl, by decide +kernel, rfl, by decide +kernel, by decide +kernel⟩
theorem bn_is_of_two : Bnd "is_of_two" s_is_of_two ps_is_of_two := fun _ _ _ _ _ _ us hl => match us, hl with | [_, _], _ => rfl
def d_is_of_two : He.DefD := ⟨("is_of_two", none), "is_of_two", "is_of_two", defArgs s_is_of_two, defBody s_is_of_two, defScope s_is_of_two, [], []⟩
def c_is_of_two : FL.Ctx := ⟨N_is_of_two, defScope s_is_of_two, tbl [("has_numbers", (2, g_has_numbers)), ("has_column", (2, g_has_column))], tbl [], tbl [], fun p => decide (p ∈ ([] : List Pos)), fun p => decide (p ∈ ([] : List Pos)), true, [], tbl ([] : List (Str × (Str → D))), none⟩
theorem e_is_of_two : evB 200 (c_is_of_two) (defBody s_is_of_two) = w_is_of_two := by kernel_rfl
abbrev s_is_rule : Stmt := top 30
abbrev ps_is_rule : List Str := ["columns", "many", "thing"]
theorem sc_is_rule : FnScope N_is_rule ps_is_rule (defScope s_is_rule) := ⟨rfl, rfl, rfl, by decide +kernel, rfl, by decide +kernel, by decide +kernel⟩
theorem bn_is_rule : Bnd "is_rule" s_is_rule ps_is_rule := fun _ _ _ _ _ _ us hl => match us, hl with | [_, _, _], _ => rfl
def d_is_rule : He.DefD := ⟨("is_rule", none), "is_rule", "is_rule", defArgs s_is_rule, defBody s_is_rule, defScope s_is_rule, [], []⟩
def c_is_rule : FL.Ctx := ⟨N_is_rule, defScope s_is_rule, tbl [("is_of_one", (3, g_is_of_one)), ("is_of_two", (2, g_is_of_two)), ("are_some", (3, g_are_some)), ("is_value", (3, g_is_value)), ("has_column", (2, g_has_column)), ("is_whole", (3, g_is_whole))], tbl [], tbl [("LENGTHS", lens)], fun p => decide (p ∈ ([] : List Pos)), fun p => decide (p ∈ ([] : List Pos)), true, [], tbl ([] : List (Str × (Str → D))), none⟩
theorem e_is_rule : evB 200 (c_is_rule) (defBody s_is_rule) = w_is_rule := by kernel_rfl
abbrev s_is_word : Stmt := top 11
abbrev ps_is_word : List Str := ["thing"]
theorem sc_is_word : FnScope N_is_word ps_is_word (defScope s_is_word) := ⟨rfl, rfl, rfl, by decide +kernel, rfl, by decide +kernel, by decide +kernel⟩
theorem bn_is_word : Bnd "is_word" s_is_word ps_is_word := fun _ _ _ _ _ _ us hl => match us, hl with | [_], _ => rfl
def d_is_word : He.DefD := ⟨("is_word", none), "is_word", "is_word", defArgs s_is_word, defBody s_is_word, defScope s_is_word, [], []⟩
def c_is_word : FL.Ctx := ⟨N_is_word, defScope s_is_word, tbl [], tbl [("SMALL", .str small), ("MOST_NAME", .int 8)], tbl [], fun p => decide (p ∈ ([] : List Pos)), fun p => decide (p ∈ ([] : List Pos)), true, [], tbl ([] : List (Str × (Str → D))), none⟩
theorem e_is_word : evB 200 (c_is_word) (defBody s_is_word) = w_is_word := by kernel_rfl
abbrev s_are_named : Stmt := top 36
abbrev ps_are_named : List Str := ["columns", "many", "thing"]
theorem sc_are_named : FnScope N_are_named ps_are_named (defScope s_are_named) := ⟨rfl, rfl, rfl, by decide +kernel, rfl, by decide +kernel, by decide +kernel⟩
theorem bn_are_named : Bnd "are_named" s_are_named ps_are_named := fun _ _ _ _ _ _ us hl => match us, hl with | [_, _, _], _ => rfl
def d_are_named : He.DefD := ⟨("are_named", none), "are_named", "are_named", defArgs s_are_named, defBody s_are_named, defScope s_are_named, [], []⟩
def c_are_named : FL.Ctx := ⟨N_are_named, defScope s_are_named, tbl [("rise", (1, g_rise)), ("is_rule", (3, g_is_rule)), ("is_word", (1, g_is_word))], tbl [("MOST_RULES", .int 12)], tbl [], fun p => decide (p ∈ ([] : List Pos)), fun p => decide (p ∈ ([] : List Pos)), true, [], tbl ([] : List (Str × (Str → D))), none⟩
theorem e_are_named : evB 200 (c_are_named) (defBody s_are_named) = w_are_named := by kernel_rfl
abbrev s_are_values : Stmt := top 14
abbrev ps_are_values : List Str := ["thing"]
theorem sc_are_values : FnScope N_are_values ps_are_values (defScope s_are_values) := ⟨rfl, rfl, rfl, by decide +kernel, rfl, by decide +kernel, by decide +kernel⟩
theorem bn_are_values : Bnd "are_values" s_are_values ps_are_values := fun _ _ _ _ _ _ us hl => match us, hl with | [_], _ => rfl
def d_are_values : He.DefD := ⟨("are_values", none), "are_values", "are_values", defArgs s_are_values, defBody s_are_values, defScope s_are_values, [], []⟩
def c_are_values : FL.Ctx := ⟨N_are_values, defScope s_are_values, tbl [("rise", (1, g_rise)), ("is_whole", (3, g_is_whole)), ("is_word", (1, g_is_word))], tbl [("MOST_NUMBER", .int 99), ("MOST_VALUES", .int 8)], tbl [], fun p => decide (p ∈ ([] : List Pos)), fun p => decide (p ∈ ([] : List Pos)), true, [], tbl ([] : List (Str × (Str → D))), none⟩
theorem e_are_values : evB 200 (c_are_values) (defBody s_are_values) = w_are_values := by kernel_rfl
abbrev s_is_column : Stmt := top 15
abbrev ps_is_column : List Str := ["thing"]
theorem sc_is_column : FnScope N_is_column ps_is_column (defScope s_is_column) := ⟨rfl, rfl, rfl, by decide +kernel, rfl, by decide +kernel, by decide +kernel⟩
theorem bn_is_column : Bnd "is_column" s_is_column ps_is_column := fun _ _ _ _ _ _ us hl => match us, hl with | [_], _ => rfl
def d_is_column : He.DefD := ⟨("is_column", none), "is_column", "is_column", defArgs s_is_column, defBody s_is_column, defScope s_is_column, [], []⟩
def c_is_column : FL.Ctx := ⟨N_is_column, defScope s_is_column, tbl [("are_values", (1, g_are_values)), ("is_word", (1, g_is_word))], tbl [], tbl [], fun p => decide (p ∈ ([] : List Pos)), fun p => decide (p ∈ ([] : List Pos)), true, [], tbl ([] : List (Str × (Str → D))), none⟩
theorem e_is_column : evB 200 (c_is_column) (defBody s_is_column) = w_is_column := by kernel_rfl
abbrev s_are_columns : Stmt := top 16
abbrev ps_are_columns : List Str := ["thing"]
theorem sc_are_columns : FnScope N_are_columns ps_are_columns (defScope s_are_columns) := ⟨rfl, rfl, rfl, by decide +kernel, rfl, by decide +kernel, by decide +kernel⟩
theorem bn_are_columns : Bnd "are_columns" s_are_columns ps_are_columns := fun _ _ _ _ _ _ us hl => match us, hl with | [_], _ => rfl
def d_are_columns : He.DefD := ⟨("are_columns", none), "are_columns", "are_columns", defArgs s_are_columns, defBody s_are_columns, defScope s_are_columns, [], []⟩
def c_are_columns : FL.Ctx := ⟨N_are_columns, defScope s_are_columns, tbl [("is_column", (1, g_is_column))], tbl [("MOST_COLUMNS", .int 3)], tbl [], fun p => decide (p ∈ ([] : List Pos)), fun p => decide (p ∈ ([] : List Pos)), true, [], tbl ([] : List (Str × (Str → D))), none⟩
theorem e_are_columns : evB 200 (c_are_columns) (defBody s_are_columns) = w_are_columns := by kernel_rfl
abbrev s_is_book : Stmt := top 37
abbrev ps_is_book : List Str := ["thing"]
theorem sc_is_book : FnScope N_is_book ps_is_book (defScope s_is_book) := ⟨rfl, rfl, rfl, by decide +kernel, rfl, by decide +kernel, by decide +kernel⟩
theorem bn_is_book : Bnd "is_book" s_is_book ps_is_book := fun _ _ _ _ _ _ us hl => match us, hl with | [_], _ => rfl
def d_is_book : He.DefD := ⟨("is_book", none), "is_book", "is_book", defArgs s_is_book, defBody s_is_book, defScope s_is_book, [], []⟩
def c_is_book : FL.Ctx := ⟨N_is_book, defScope s_is_book, tbl [("are_named", (3, g_are_named)), ("is_whole", (3, g_is_whole)), ("are_columns", (1, g_are_columns))], tbl [("MOST_ROWS", .int 8)], tbl [], fun p => decide (p ∈ ([] : List Pos)), fun p => decide (p ∈ ([] : List Pos)), true, [], tbl ([] : List (Str × (Str → D))), none⟩
theorem e_is_book : evB 200 (c_is_book) (defBody s_is_book) = w_is_book := by kernel_rfl
abbrev s_need_book : Stmt := top 38
abbrev ps_need_book : List Str := ["thing"]
theorem sc_need_book : FnScope N_need_book ps_need_book (defScope s_need_book) := ⟨rfl, rfl, rfl, by decide +kernel, rfl, by decide +kernel, by decide +kernel⟩
theorem bn_need_book : Bnd "need_book" s_need_book ps_need_book := fun _ _ _ _ _ _ us hl => match us, hl with | [_], _ => rfl
def d_need_book : He.DefD := ⟨("need_book", none), "need_book", "need_book", defArgs s_need_book, defBody s_need_book, defScope s_need_book, [], []⟩
def c_need_book : FL.Ctx := ⟨N_need_book, defScope s_need_book, tbl [("is_book", (1, g_is_book))], tbl [], tbl [], fun p => decide (p ∈ ([] : List Pos)), fun p => decide (p ∈ ([] : List Pos)), true, xs, tbl ([] : List (Str × (Str → D))), none⟩
theorem e_need_book : evB 200 (c_need_book) (defBody s_need_book) = w_need_book := by kernel_rfl
abbrev s_is_table : Stmt := top 39
abbrev ps_is_table : List Str := ["book", "thing"]
theorem sc_is_table : FnScope N_is_table ps_is_table (defScope s_is_table) := ⟨rfl, rfl, rfl, by decide +kernel, rfl, by decide +kernel, by decide +kernel⟩
theorem bn_is_table : Bnd "is_table" s_is_table ps_is_table := fun _ _ _ _ _ _ us hl => match us, hl with | [_, _], _ => rfl
def d_is_table : He.DefD := ⟨("is_table", none), "is_table", "is_table", defArgs s_is_table, defBody s_is_table, defScope s_is_table, [], []⟩
def c_is_table : FL.Ctx := ⟨N_is_table, defScope s_is_table, tbl [("is_row", (2, g_is_row)), ("need_book", (1, g_need_book))], tbl [], tbl [], fun p => decide (p ∈ ([] : List Pos)), fun p => decide (p ∈ ([] : List Pos)), true, [], tbl ([] : List (Str × (Str → D))), none⟩
theorem e_is_table : evB 200 (c_is_table) (defBody s_is_table) = w_is_table := by kernel_rfl
abbrev s_need_table : Stmt := top 40
abbrev ps_need_table : List Str := ["book", "thing"]
theorem sc_need_table : FnScope N_need_table ps_need_table (defScope s_need_table) := ⟨rfl, rfl, rfl, by decide +kernel, rfl, by decide +kernel, by decide +kernel⟩
theorem bn_need_table : Bnd "need_table" s_need_table ps_need_table := fun _ _ _ _ _ _ us hl => match us, hl with | [_, _], _ => rfl
def d_need_table : He.DefD := ⟨("need_table", none), "need_table", "need_table", defArgs s_need_table, defBody s_need_table, defScope s_need_table, [], []⟩
def c_need_table : FL.Ctx := ⟨N_need_table, defScope s_need_table, tbl [("is_table", (2, g_is_table))], tbl [], tbl [], fun p => decide (p ∈ ([] : List Pos)), fun p => decide (p ∈ ([] : List Pos)), true, xs, tbl ([] : List (Str × (Str → D))), none⟩
theorem e_need_table : evB 200 (c_need_table) (defBody s_need_table) = w_need_table := by kernel_rfl
abbrev s_broken : Stmt := top 41
abbrev ps_broken : List Str := ["book", "table"]
theorem sc_broken : FnScope N_broken ps_broken (defScope s_broken) := ⟨rfl, rfl, rfl, by decide +kernel, rfl, by decide +kernel, by decide +kernel⟩
theorem bn_broken : Bnd "broken" s_broken ps_broken := fun _ _ _ _ _ _ us hl => match us, hl with | [_, _], _ => rfl
def d_broken : He.DefD := ⟨("broken", none), "broken", "broken", defArgs s_broken, defBody s_broken, defScope s_broken, [], []⟩
def c_broken : FL.Ctx := ⟨N_broken, defScope s_broken, tbl [("table_keeps", (3, g_table_keeps)), ("need_table", (2, g_need_table))], tbl [], tbl [], fun p => decide (p ∈ ([⟨150, 11, 150, 84⟩] : List Pos)), fun p => decide (p ∈ ([] : List Pos)), true, [], tbl ([] : List (Str × (Str → D))), none⟩
theorem e_broken : evB 200 (c_broken) (defBody s_broken) = w_broken := by kernel_rfl
abbrev s__law_says : Stmt := top 55
abbrev ps__law_says : List Str := ["_law_found", "_law_due"]
theorem sc__law_says : FnScope N__law_says ps__law_says (defScope s__law_says) := ⟨rfl, rfl, rfl, by decide +kernel, rfl, by decide +kernel, by decide +kernel⟩
theorem bn__law_says : Bnd "_law_says" s__law_says ps__law_says := fun _ _ _ _ _ _ us hl => match us, hl with | [_, _], _ => rfl
def d__law_says : He.DefD := ⟨("_law_says", none), "_law_says", "_law_says", defArgs s__law_says, defBody s__law_says, defScope s__law_says, [], []⟩
def c__law_says : FL.Ctx := ⟨N__law_says, defScope s__law_says, tbl [], tbl [], tbl [], fun p => decide (p ∈ ([] : List Pos)), fun p => decide (p ∈ ([] : List Pos)), true, [], tbl ([] : List (Str × (Str → D))), none⟩
theorem e__law_says : evB 200 (c__law_says) (defBody s__law_says) = w__law_says := by kernel_rfl
abbrev s__law_spot : Stmt := top 51
abbrev ps__law_spot : List Str := ["_law_columns_here", "_law_name"]
theorem sc__law_spot : FnScope N__law_spot ps__law_spot (defScope s__law_spot) := ⟨rfl, rfl, rfl, by decide +kernel, rfl, by decide +kernel, by decide +kernel⟩
theorem bn__law_spot : Bnd "_law_spot" s__law_spot ps__law_spot := fun _ _ _ _ _ _ us hl => match us, hl with | [_, _], _ => rfl
def d__law_spot : He.DefD := ⟨("_law_spot", none), "_law_spot", "_law_spot", defArgs s__law_spot, defBody s__law_spot, defScope s__law_spot, [], []⟩
def c__law_spot : FL.Ctx := ⟨N__law_spot, defScope s__law_spot, tbl [], tbl [], tbl [], fun p => decide (p ∈ ([] : List Pos)), fun p => decide (p ∈ ([] : List Pos)), true, [], tbl ([] : List (Str × (Str → D))), none⟩
theorem e__law_spot : evB 200 (c__law_spot) (defBody s__law_spot) = w__law_spot := by kernel_rfl
abbrev s__law_row_keeps : Stmt := top 52
abbrev ps__law_row_keeps : List Str := ["_law_columns_here", "_law_rule_here", "_law_row"]
theorem sc__law_row_keeps : FnScope N__law_row_keeps ps__law_row_keeps (defScope s__law_row_keeps) := ⟨rfl, rfl, rfl, by decide +kernel, rfl, by decide +kernel, by decide +kernel⟩
theorem bn__law_row_keeps : Bnd "_law_row_keeps" s__law_row_keeps ps__law_row_keeps := fun _ _ _ _ _ _ us hl => match us, hl with | [_, _, _], _ => rfl
def d__law_row_keeps : He.DefD := ⟨("_law_row_keeps", none), "_law_row_keeps", "_law_row_keeps", defArgs s__law_row_keeps, defBody s__law_row_keeps, defScope s__law_row_keeps, [], []⟩
def c__law_row_keeps : FL.Ctx := ⟨N__law_row_keeps, defScope s__law_row_keeps, tbl [("_law_spot", (2, g__law_spot))], tbl [], tbl [], fun p => decide (p ∈ ([] : List Pos)), fun p => decide (p ∈ ([] : List Pos)), true, [], tbl ([] : List (Str × (Str → D))), none⟩
theorem e__law_row_keeps : evB 200 (c__law_row_keeps) (defBody s__law_row_keeps) = w__law_row_keeps := by kernel_rfl
abbrev s__law_keeps : Stmt := top 53
abbrev ps__law_keeps : List Str := ["_law_columns_here", "_law_rule_here", "_law_table"]
theorem sc__law_keeps : FnScope N__law_keeps ps__law_keeps (defScope s__law_keeps) := ⟨rfl, rfl, rfl, by decide +kernel, rfl, by decide +kernel, by decide +kernel⟩
theorem bn__law_keeps : Bnd "_law_keeps" s__law_keeps ps__law_keeps := fun _ _ _ _ _ _ us hl => match us, hl with | [_, _, _], _ => rfl
def d__law_keeps : He.DefD := ⟨("_law_keeps", none), "_law_keeps", "_law_keeps", defArgs s__law_keeps, defBody s__law_keeps, defScope s__law_keeps, [], []⟩
def c__law_keeps : FL.Ctx := ⟨N__law_keeps, defScope s__law_keeps, tbl [("_law_spot", (2, g__law_spot)), ("_law_row_keeps", (3, g__law_row_keeps))], tbl [], tbl [], fun p => decide (p ∈ ([] : List Pos)), fun p => decide (p ∈ ([] : List Pos)), true, [], tbl ([] : List (Str × (Str → D))), none⟩
theorem e__law_keeps : evB 200 (c__law_keeps) (defBody s__law_keeps) = w__law_keeps := by kernel_rfl
abbrev s__law_right : Stmt := top 56
abbrev ps__law_right : List Str := ["_law_book_here", "_law_table"]
theorem sc__law_right : FnScope N__law_right ps__law_right (defScope s__law_right) := ⟨rfl, rfl, rfl, by decide +kernel, rfl, by decide +kernel, by decide +kernel⟩
theorem bn__law_right : Bnd "_law_right" s__law_right ps__law_right := fun _ _ _ _ _ _ us hl => match us, hl with | [_, _], _ => rfl
def d__law_right : He.DefD := ⟨("_law_right", none), "_law_right", "_law_right", defArgs s__law_right, defBody s__law_right, defScope s__law_right, [], []⟩
def c__law_right : FL.Ctx := ⟨N__law_right, defScope s__law_right, tbl [("broken", (2, g_broken)), ("_law_says", (2, g__law_says)), ("_law_row_keeps", (3, g__law_row_keeps)), ("row_keeps", (3, g_row_keeps)), ("table_keeps", (3, g_table_keeps)), ("_law_keeps", (3, g__law_keeps))], tbl [], tbl [], fun p => decide (p ∈ ([] : List Pos)), fun p => decide (p ∈ ([] : List Pos)), true, [], tbl ([] : List (Str × (Str → D))), none⟩
theorem e__law_right : evB 200 (c__law_right) (defBody s__law_right) = w__law_right := by kernel_rfl
abbrev s__law_take : Stmt := top 44
abbrev ps__law_take : List Str := ["_law_well_here", "_law_many"]
theorem sc__law_take : FnScope N__law_take ps__law_take (defScope s__law_take) := ⟨rfl, rfl, rfl, by decide +kernel, rfl, by decide +kernel, by decide +kernel⟩
theorem bn__law_take : Bnd "_law_take" s__law_take ps__law_take := fun _ _ _ _ _ _ us hl => match us, hl with | [_, _], _ => rfl
def d__law_take : He.DefD := ⟨("_law_take", none), "_law_take", "_law_take", defArgs s__law_take, defBody s__law_take, defScope s__law_take, [], []⟩
def c__law_take : FL.Ctx := ⟨N__law_take, defScope s__law_take, tbl [], tbl [], tbl [], fun p => decide (p ∈ ([] : List Pos)), fun p => decide (p ∈ ([] : List Pos)), true, [], tbl ([] : List (Str × (Str → D))), none⟩
theorem e__law_take : evB 200 (c__law_take) (defBody s__law_take) = w__law_take := by kernel_rfl
abbrev s__law_rows : Stmt := top 54
abbrev ps__law_rows : List Str := ["_law_columns_here"]
theorem sc__law_rows : FnScope N__law_rows ps__law_rows (defScope s__law_rows) := ⟨rfl, rfl, rfl, by decide +kernel, rfl, by decide +kernel, by decide +kernel⟩
theorem bn__law_rows : Bnd "_law_rows" s__law_rows ps__law_rows := fun _ _ _ _ _ _ us hl => match us, hl with | [_], _ => rfl
def d__law_rows : He.DefD := ⟨("_law_rows", none), "_law_rows", "_law_rows", defArgs s__law_rows, defBody s__law_rows, defScope s__law_rows, [], []⟩
def c__law_rows : FL.Ctx := ⟨N__law_rows, defScope s__law_rows, tbl [], tbl [], tbl [], fun p => decide (p ∈ ([] : List Pos)), fun p => decide (p ∈ ([] : List Pos)), true, [], tbl ([] : List (Str × (Str → D))), none⟩
theorem e__law_rows : evB 200 (c__law_rows) (defBody s__law_rows) = w__law_rows := by kernel_rfl
abbrev s__law_word : Stmt := top 45
abbrev ps__law_word : List Str := ["_law_well_here"]
theorem sc__law_word : FnScope N__law_word ps__law_word (defScope s__law_word) := ⟨rfl, rfl, rfl, by decide +kernel, rfl, by decide +kernel, by decide +kernel⟩
theorem bn__law_word : Bnd "_law_word" s__law_word ps__law_word := fun _ _ _ _ _ _ us hl => match us, hl with | [_], _ => rfl
def d__law_word : He.DefD := ⟨("_law_word", none), "_law_word", "_law_word", defArgs s__law_word, defBody s__law_word, defScope s__law_word, [], []⟩
def c__law_word : FL.Ctx := ⟨N__law_word, defScope s__law_word, tbl [("_law_take", (2, g__law_take))], tbl [], tbl [], fun p => decide (p ∈ ([] : List Pos)), fun p => decide (p ∈ ([] : List Pos)), true, [], tbl ([] : List (Str × (Str → D))), none⟩
theorem e__law_word : evB 200 (c__law_word) (defBody s__law_word) = w__law_word := by kernel_rfl
abbrev s__law_some : Stmt := top 47
abbrev ps__law_some : List Str := ["_law_well_here", "_law_values"]
theorem sc__law_some : FnScope N__law_some ps__law_some (defScope s__law_some) := ⟨rfl, rfl, rfl, by decide +kernel, rfl, by decide +kernel, by decide +kernel⟩
theorem bn__law_some : Bnd "_law_some" s__law_some ps__law_some := fun _ _ _ _ _ _ us hl => match us, hl with | [_, _], _ => rfl
def d__law_some : He.DefD := ⟨("_law_some", none), "_law_some", "_law_some", defArgs s__law_some, defBody s__law_some, defScope s__law_some, [], []⟩
def c__law_some : FL.Ctx := ⟨N__law_some, defScope s__law_some, tbl [("_law_take", (2, g__law_take))], tbl [], tbl [], fun p => decide (p ∈ ([] : List Pos)), fun p => decide (p ∈ ([] : List Pos)), true, [], tbl ([] : List (Str × (Str → D))), none⟩
theorem e__law_some : evB 200 (c__law_some) (defBody s__law_some) = w__law_some := by kernel_rfl
abbrev s__law_span : Stmt := top 48
abbrev ps__law_span : List Str := ["_law_well_here", "_law_most"]
theorem sc__law_span : FnScope N__law_span ps__law_span (defScope s__law_span) := ⟨rfl, rfl, rfl, by decide +kernel, rfl, by decide +kernel, by decide +kernel⟩
theorem bn__law_span : Bnd "_law_span" s__law_span ps__law_span := fun _ _ _ _ _ _ us hl => match us, hl with | [_, _], _ => rfl
def d__law_span : He.DefD := ⟨("_law_span", none), "_law_span", "_law_span", defArgs s__law_span, defBody s__law_span, defScope s__law_span, [], []⟩
def c__law_span : FL.Ctx := ⟨N__law_span, defScope s__law_span, tbl [("_law_take", (2, g__law_take))], tbl [], tbl [], fun p => decide (p ∈ ([] : List Pos)), fun p => decide (p ∈ ([] : List Pos)), true, [], tbl ([] : List (Str × (Str → D))), none⟩
theorem e__law_span : evB 200 (c__law_span) (defBody s__law_span) = w__law_span := by kernel_rfl
abbrev s__law_rule : Stmt := top 49
abbrev ps__law_rule : List Str := ["_law_well_here", "_law_columns_here", "_law_many"]
theorem sc__law_rule : FnScope N__law_rule ps__law_rule (defScope s__law_rule) := ⟨rfl, rfl, rfl, by decide +kernel, rfl, by decide +kernel, by decide +kernel⟩
theorem bn__law_rule : Bnd "_law_rule" s__law_rule ps__law_rule := fun _ _ _ _ _ _ us hl => match us, hl with | [_, _, _], _ => rfl
def d__law_rule : He.DefD := ⟨("_law_rule", none), "_law_rule", "_law_rule", defArgs s__law_rule, defBody s__law_rule, defScope s__law_rule, [], []⟩
def c__law_rule : FL.Ctx := ⟨N__law_rule, defScope s__law_rule, tbl [("_law_take", (2, g__law_take)), ("_law_some", (2, g__law_some)), ("_law_span", (2, g__law_span))], tbl [], tbl [], fun p => decide (p ∈ ([] : List Pos)), fun p => decide (p ∈ ([] : List Pos)), true, [], tbl ([] : List (Str × (Str → D))), none⟩
theorem e__law_rule : evB 200 (c__law_rule) (defBody s__law_rule) = w__law_rule := by kernel_rfl
abbrev s__law_columns : Stmt := top 46
abbrev ps__law_columns : List Str := ["_law_well_here", "_law_most", "_law_longest"]
theorem sc__law_columns : FnScope N__law_columns ps__law_columns (defScope s__law_columns) := ⟨rfl, rfl, rfl, by decide +kernel, rfl, by decide +kernel, by decide +kernel⟩
theorem bn__law_columns : Bnd "_law_columns" s__law_columns ps__law_columns := fun _ _ _ _ _ _ us hl => match us, hl with | [_, _, _], _ => rfl
def d__law_columns : He.DefD := ⟨("_law_columns", none), "_law_columns", "_law_columns", defArgs s__law_columns, defBody s__law_columns, defScope s__law_columns, [], []⟩
def c__law_columns : FL.Ctx := ⟨N__law_columns, defScope s__law_columns, tbl [("_law_take", (2, g__law_take)), ("_law_word", (1, g__law_word))], tbl [], tbl [], fun p => decide (p ∈ ([⟨177, 24, 177, 26⟩] : List Pos)), fun p => decide (p ∈ ([] : List Pos)), true, [], tbl ([] : List (Str × (Str → D))), none⟩
theorem e__law_columns : evB 200 (c__law_columns) (defBody s__law_columns) = w__law_columns := by kernel_rfl
abbrev s__law_book : Stmt := top 50
abbrev ps__law_book : List Str := ["_law_well_here", "_law_most", "_law_longest", "_law_rows_here", "_law_rules"]
theorem sc__law_book : FnScope N__law_book ps__law_book (defScope s__law_book) := ⟨rfl, rfl, rfl, by decide +kernel, rfl, by decide +kernel, by decide +kernel⟩
theorem bn__law_book : Bnd "_law_book" s__law_book ps__law_book := fun _ _ _ _ _ _ us hl => match us, hl with | [_, _, _, _, _], _ => rfl
def d__law_book : He.DefD := ⟨("_law_book", none), "_law_book", "_law_book", defArgs s__law_book, defBody s__law_book, defScope s__law_book, [], []⟩
def c__law_book : FL.Ctx := ⟨N__law_book, defScope s__law_book, tbl [("_law_take", (2, g__law_take)), ("_law_word", (1, g__law_word)), ("_law_rule", (3, g__law_rule)), ("_law_columns", (3, g__law_columns))], tbl [], tbl [], fun p => decide (p ∈ ([] : List Pos)), fun p => decide (p ∈ ([] : List Pos)), true, [], tbl ([] : List (Str × (Str → D))), none⟩
theorem e__law_book : evB 200 (c__law_book) (defBody s__law_book) = w__law_book := by kernel_rfl
abbrev s__law_well : Stmt := top 43
abbrev ps__law_well : List Str := ["_law_script", "_law_k"]
theorem sc__law_well : FnScope N__law_well ps__law_well (defScope s__law_well) := ⟨rfl, rfl, rfl, by decide +kernel, rfl, by decide +kernel, by decide +kernel⟩
theorem bn__law_well : Bnd "_law_well" s__law_well ps__law_well := fun _ _ _ _ _ _ us hl => match us, hl with | [_, _], _ => rfl
def d__law_well : He.DefD := ⟨("_law_well", none), "_law_well", "_law_well", defArgs s__law_well, defBody s__law_well, defScope s__law_well, [], []⟩
def c__law_well : FL.Ctx := ⟨N__law_well, defScope s__law_well, tbl [], tbl [], tbl [], fun p => decide (p ∈ ([⟨161, 11, 161, 50⟩, ⟨160, 15, 160, 62⟩] : List Pos)), fun p => decide (p ∈ ([] : List Pos)), true, [], tbl ([] : List (Str × (Str → D))), none⟩
theorem e__law_well : evB 200 (c__law_well) (defBody s__law_well) = w__law_well := by kernel_rfl
abbrev s_law : Stmt := top 57
abbrev ps_law : List Str := ["_law_script"]
theorem sc_law : FnScope N_law ps_law (defScope s_law) := ⟨rfl, rfl, rfl, by decide +kernel, rfl, by decide +kernel, by decide +kernel⟩
theorem bn_law : Bnd "law" s_law ps_law := fun _ _ _ _ _ _ us hl => match us, hl with | [_], _ => rfl
def d_law : He.DefD := ⟨("law", none), "law", "law", defArgs s_law, defBody s_law, defScope s_law, [], []⟩
def c_law : FL.Ctx := ⟨N_law, defScope s_law, tbl [("_law_right", (2, g__law_right)), ("_law_take", (2, g__law_take)), ("_law_rows", (1, g__law_rows)), ("_law_book", (5, g__law_book)), ("_law_well", (2, g__law_well))], tbl [], tbl [], fun p => decide (p ∈ ([] : List Pos)), fun p => decide (p ∈ ([] : List Pos)), true, [], tbl ([] : List (Str × (Str → D))), none⟩
theorem e_law : evB 200 (c_law) (defBody s_law) = w_law := by kernel_rfl
def fn : List He.DefD := [d_spot_of, d_values_of, d_row_keeps, d_table_keeps, d_is_value, d_is_row, d_rise, d_is_whole, d_has_numbers, d_are_some, d_is_of_one, d_has_column, d_is_of_two, d_is_rule, d_is_word, d_are_named, d_are_values, d_is_column, d_are_columns, d_is_book, d_need_book, d_is_table, d_need_table, d_broken, d__law_says, d__law_spot, d__law_row_keeps, d__law_keeps, d__law_right, d__law_take, d__law_rows, d__law_word, d__law_some, d__law_span, d__law_rule, d__law_columns, d__law_book, d__law_well, d_law]
def fa1 : List He.Fa := [.glo "spot_of", .glo "values_of", .glo "row_keeps", .glo "table_keeps", .glo "is_value", .glo "is_row", .glo "rise", .glo "is_whole", .glo "has_numbers", .glo "are_some", .glo "is_of_one", .glo "has_column", .glo "is_of_two", .glo "is_rule", .glo "is_word", .glo "are_named", .glo "are_values", .glo "is_column", .glo "are_columns", .glo "is_book", .glo "need_book", .glo "is_table", .glo "need_table", .glo "broken", .glo "_law_says", .glo "_law_spot", .glo "_law_row_keeps", .glo "_law_keeps", .glo "_law_right", .glo "_law_take", .glo "_law_rows", .glo "_law_word", .glo "_law_some", .glo "_law_span", .glo "_law_rule", .glo "_law_columns", .glo "_law_book", .glo "_law_well", .glo "law"]
def fa2 : List He.Fa := [.glo "LENGTHS", .int "MOST_COLUMNS" 3, .int "MOST_NAME" 8, .int "MOST_NUMBER" 99, .int "MOST_ROWS" 8, .int "MOST_RULES" 12, .int "MOST_SUM" 999, .int "MOST_VALUES" 8, .glo "ROW_WORDS", .str "SMALL" small]
def fa : List He.Fa := fa1 ++ (blFa ++ fa2)
def ts : List TabF := [("LENGTHS", lens)]
def us : List TupF := [("ROW_WORDS", ["less", "same", "apart", "if", "only"])]
abbrev R : PySem.W.OpenRow := PySem.W.OpenLaw.row PySem.Challenge.rw_rowmint_k04_what_is_broken
abbrev hk : PySem.W.Hook := hookF 4 fa fn ts xs us
def ob (s : PySem.W.SharedT) : AlF := obsFG 4 fa fn ts xs us (HandSHeadRun.getT s)
theorem ob_eq (s : PySem.W.SharedT) : ob s = hk.obs s.abs := obsFG_eq (HandSHeadRun.getT_eq s)
def lo0 : List Str := ["MintError", "NoBook", "NoColumn", "NoTable", "SMALL", "MOST_NAME", "MOST_NUMBER", "MOST_VALUES", "MOST_COLUMNS", "is_word", "is_whole", "rise", "are_values", "is_column", "are_columns", "spot_of", "has_column", "values_of", "is_value", "has_numbers"]
def lo1 : List Str := ["is_row", "MOST_SUM", "ROW_WORDS", "LENGTHS", "are_some", "is_of_two", "is_of_one", "is_rule", "row_keeps", "table_keeps", "MOST_ROWS", "MOST_RULES", "are_named", "is_book", "need_book", "is_table", "need_table", "broken", "_law_well", "_law_take"]
def lo2 : List Str := ["_law_word", "_law_columns", "_law_some", "_law_span", "_law_rule", "_law_book", "_law_spot", "_law_row_keeps", "_law_keeps", "_law_rows", "_law_says", "_law_right"]
abbrev lo : List Str := lo0 ++ lo1 ++ lo2
open PySem.W PySem.Calls in
theorem lk_false (w : World) : ∀ os, (HandSHeadRun.endF (HandSHeadRun.stepQ (HandSHeadRun.denQ HandSHeadRun.tabQ) R.prog (w.withFollow "special-get-raises" false)) 6000 R.prog (w.withFollow "special-get-raises" false) os).map (fun s => HandSHeadRun.looksF R.prog (boot_heap (w.withFollow "special-get-raises" false).params) s.abs) = some true := by
  intro os
  kernel_rfl
open PySem.W PySem.Calls in
theorem sn_false (w : World) : ∀ os, (HandSHeadRun.endF (HandSHeadRun.stepQ (HandSHeadRun.denQ HandSHeadRun.tabQ) R.prog (w.withFollow "special-get-raises" false)) 6000 R.prog (w.withFollow "special-get-raises" false) os).map (fun s => HandSHeadRun.seenQ (view R.prog [57]) lo (importedModules R.prog.main.body) (fun s => xlAt (view R.prog [57]) [] s && recOk R.toRowW.records s) s.abs) = some (openGood (view R.prog [57]) lo) := by
  intro os
  kernel_rfl
theorem ob_false (w : World) : ∀ os, (HandSHeadRun.endF (HandSHeadRun.stepQ (HandSHeadRun.denQ HandSHeadRun.tabQ) R.prog (w.withFollow "special-get-raises" false)) 6000 R.prog (w.withFollow "special-get-raises" false) os).map ob = some (hk.val (w.withFollow "special-get-raises" false)) := by
  intro os
  kernel_rfl
open PySem.W PySem.Calls in
theorem lk_true (w : World) : ∀ os, (HandSHeadRun.endF (HandSHeadRun.stepQ (HandSHeadRun.denQ HandSHeadRun.tabQ) R.prog (w.withFollow "special-get-raises" true)) 6000 R.prog (w.withFollow "special-get-raises" true) os).map (fun s => HandSHeadRun.looksF R.prog (boot_heap (w.withFollow "special-get-raises" true).params) s.abs) = some true := by
  intro os
  kernel_rfl
open PySem.W PySem.Calls in
theorem sn_true (w : World) : ∀ os, (HandSHeadRun.endF (HandSHeadRun.stepQ (HandSHeadRun.denQ HandSHeadRun.tabQ) R.prog (w.withFollow "special-get-raises" true)) 6000 R.prog (w.withFollow "special-get-raises" true) os).map (fun s => HandSHeadRun.seenQ (view R.prog [57]) lo (importedModules R.prog.main.body) (fun s => xlAt (view R.prog [57]) [] s && recOk R.toRowW.records s) s.abs) = some (openGood (view R.prog [57]) lo) := by
  intro os
  kernel_rfl
theorem ob_true (w : World) : ∀ os, (HandSHeadRun.endF (HandSHeadRun.stepQ (HandSHeadRun.denQ HandSHeadRun.tabQ) R.prog (w.withFollow "special-get-raises" true)) 6000 R.prog (w.withFollow "special-get-raises" true) os).map ob = some (hk.val (w.withFollow "special-get-raises" true)) := by
  intro os
  kernel_rfl
theorem run (w : World) : HandSHeadRun.RunEq R (PySem.W.view R.prog [57]) hk ob 6000 lo w :=
  PySem.W.byRow2 "special-get-raises" (P := fun w => HandSHeadRun.RunEq R (PySem.W.view R.prog [57]) hk ob 6000 lo w) (fun w os => map3 (lk_false w os) (sn_false w os) (ob_false w os)) (fun w os => map3 (lk_true w os) (sn_true w os) (ob_true w os)) w
section
variable {P : Program} {w : World} {K : PySem.W.Frag} {h : Heap} {mg : Str → Option Value} {f : Addr}
theorem facts (X : K.In h) (G : h.Ns mainGlobals mg) (hfa : mg ("law" : Str) = some (.ref f)) (c : SaysF fa fn ts xs us w K) :
    ∃ fd : FuncData, (∀ (s : Shared) (v : Value), BindsTo s fd ⟨[v], []⟩ [("_law_script", v)]) ∧ ∀ base : Heap, K.In base → base.Ns mainGlobals mg → FnOk P w K mg base (L2N.CX P w) 14 f fd ["_law_script"] (spM K 1 (defW N_law w_law)) := by
  obtain ⟨fd, F⟩ := c.d.def_ 38 (d := d_law) rfl
  have e := hfa.symm.trans (He.glo_ok X G (c.d.fact 38 (f := .glo "law") rfl))
  cases e
  have b := FunD.bindsA (ps := ["_law_script"]) F fun _ _ _ _ _ _ us hl => match us, hl with | [_], _ => rfl
  have B : Bl mg := bl_of X G c.d (f1 := fa1) (f2 := fa2) rfl
  refine ⟨fd, fun s v => b s [v] rfl, fun base _ _ => ?_⟩
  have h_spot_of : Has P w K mg base "spot_of" 1 2 g_spot_of := (has_w (k := 0) e_spot_of (df_of X G c.d 0) sc_spot_of bn_spot_of rfl rfl rfl ⟨fns0, cons0, tabs0, B, excs_of X G c (by decide +kernel), hots0⟩).imp p_spot_of
  have h_values_of : Has P w K mg base "values_of" 2 2 g_values_of := (has_w (k := 1) e_values_of (df_of X G c.d 1) sc_values_of bn_values_of rfl rfl rfl ⟨fnsC h_spot_of (by decide) (fns0), cons0, tabs0, B, excs0, hots0⟩).imp p_values_of
  have h_row_keeps : Has P w K mg base "row_keeps" 2 3 g_row_keeps := (has_w (k := 1) e_row_keeps (df_of X G c.d 2) sc_row_keeps bn_row_keeps rfl rfl rfl ⟨fnsC h_spot_of (by decide) (fns0), cons0, tabs0, B, excs0, hots0⟩).imp p_row_keeps
  have h_table_keeps : Has P w K mg base "table_keeps" 3 3 g_table_keeps := (has_w (k := 2) e_table_keeps (df_of X G c.d 3) sc_table_keeps bn_table_keeps rfl rfl rfl ⟨fnsC h_spot_of (by decide) (fnsC h_values_of (by decide) (fnsC h_row_keeps (by decide) (fns0))), consT (a := He.ga K "ROW_WORDS") (zs := ["less", "same", "apart", "if", "only"]) (He.glo_ok X G (c.d.fact 66 rfl)) (fun H => c.tupl 0 (u := ("ROW_WORDS", ["less", "same", "apart", "if", "only"])) rfl H) (by decide +kernel) (cons0), tabs0, B, excs0, hots0⟩).imp p_table_keeps
  have h_is_value : Has P w K mg base "is_value" 3 3 g_is_value := (has_w (k := 2) e_is_value (df_of X G c.d 4) sc_is_value bn_is_value rfl rfl rfl ⟨fnsC h_values_of (by decide) (fns0), cons0, tabs0, B, excs0, hots0⟩).imp p_is_value
  have h_is_row : Has P w K mg base "is_row" 4 2 g_is_row := (has_w (k := 3) e_is_row (df_of X G c.d 5) sc_is_row bn_is_row rfl rfl rfl ⟨fnsC h_is_value (by decide) (fns0), cons0, tabs0, B, excs0, hots0⟩).imp p_is_row
  have h_rise : Has P w K mg base "rise" 1 1 g_rise := (has_w (k := 0) e_rise (df_of X G c.d 6) sc_rise bn_rise rfl rfl rfl ⟨fns0, cons0, tabs0, B, excs0, hots0⟩).imp p_rise
  have h_is_whole : Has P w K mg base "is_whole" 1 3 g_is_whole := (has_w (k := 0) e_is_whole (df_of X G c.d 7) sc_is_whole bn_is_whole rfl rfl rfl ⟨fns0, cons0, tabs0, B, excs0, hots0⟩).imp p_is_whole
  have h_has_numbers : Has P w K mg base "has_numbers" 3 2 g_has_numbers := (has_w (k := 2) e_has_numbers (df_of X G c.d 8) sc_has_numbers bn_has_numbers rfl rfl rfl ⟨fnsC h_values_of (by decide) (fns0), cons0, tabs0, B, excs0, hots0⟩).imp p_has_numbers
  have h_are_some : Has P w K mg base "are_some" 4 3 g_are_some := (has_w (k := 3) e_are_some (df_of X G c.d 9) sc_are_some bn_are_some rfl rfl rfl ⟨fnsC h_rise (by decide) (fnsC h_is_value (by decide) (fns0)), cons0, tabs0, B, excs0, hots0⟩).imp p_are_some
  have h_is_of_one : Has P w K mg base "is_of_one" 5 3 g_is_of_one := (has_w (k := 4) e_is_of_one (df_of X G c.d 10) sc_is_of_one bn_is_of_one rfl rfl rfl ⟨fnsC h_is_whole (by decide) (fnsC h_is_value (by decide) (fnsC h_has_numbers (by decide) (fnsC h_are_some (by decide) (fns0)))), consI (He.int_ok X G (c.d.fact 64 rfl)) (cons0), tabs0, B, excs0, hots0⟩).imp p_is_of_one
  have h_has_column : Has P w K mg base "has_column" 1 2 g_has_column := (has_w (k := 0) e_has_column (df_of X G c.d 11) sc_has_column bn_has_column rfl rfl rfl ⟨fns0, cons0, tabs0, B, excs0, hots0⟩).imp p_has_column
  have h_is_of_two : Has P w K mg base "is_of_two" 4 2 g_is_of_two := (has_w (k := 3) e_is_of_two (df_of X G c.d 12) sc_is_of_two bn_is_of_two rfl rfl rfl ⟨fnsC h_has_numbers (by decide) (fnsC h_has_column (by decide) (fns0)), cons0, tabs0, B, excs0, hots0⟩).imp p_is_of_two
  have h_is_rule : Has P w K mg base "is_rule" 6 3 g_is_rule := (has_w (k := 5) e_is_rule (df_of X G c.d 13) sc_is_rule bn_is_rule rfl rfl rfl ⟨fnsC h_is_of_one (by decide) (fnsC h_is_of_two (by decide) (fnsC h_are_some (by decide) (fnsC h_is_value (by decide) (fnsC h_has_column (by decide) (fnsC h_is_whole (by decide) (fns0)))))), cons0, tabsC ⟨_, He.glo_ok X G (c.d.fact 58 rfl), c.tab 0⟩ (tabs0), B, excs0, hots0⟩).imp p_is_rule
  have h_is_word : Has P w K mg base "is_word" 1 1 g_is_word := (has_w (k := 0) e_is_word (df_of X G c.d 14) sc_is_word bn_is_word rfl rfl rfl ⟨fns0, consS (He.str_ok X G (c.d.fact 67 rfl)) (by decide +kernel) (consI (He.int_ok X G (c.d.fact 60 rfl)) (cons0)), tabs0, B, excs0, hots0⟩).imp p_is_word
  have h_are_named : Has P w K mg base "are_named" 7 3 g_are_named := (has_w (k := 6) e_are_named (df_of X G c.d 15) sc_are_named bn_are_named rfl rfl rfl ⟨fnsC h_rise (by decide) (fnsC h_is_rule (by decide) (fnsC h_is_word (by decide) (fns0))), consI (He.int_ok X G (c.d.fact 63 rfl)) (cons0), tabs0, B, excs0, hots0⟩).imp p_are_named
  have h_are_values : Has P w K mg base "are_values" 2 1 g_are_values := (has_w (k := 1) e_are_values (df_of X G c.d 16) sc_are_values bn_are_values rfl rfl rfl ⟨fnsC h_rise (by decide) (fnsC h_is_whole (by decide) (fnsC h_is_word (by decide) (fns0))), consI (He.int_ok X G (c.d.fact 61 rfl)) (consI (He.int_ok X G (c.d.fact 65 rfl)) (cons0)), tabs0, B, excs0, hots0⟩).imp p_are_values
  have h_is_column : Has P w K mg base "is_column" 3 1 g_is_column := (has_w (k := 2) e_is_column (df_of X G c.d 17) sc_is_column bn_is_column rfl rfl rfl ⟨fnsC h_are_values (by decide) (fnsC h_is_word (by decide) (fns0)), cons0, tabs0, B, excs0, hots0⟩).imp p_is_column
  have h_are_columns : Has P w K mg base "are_columns" 4 1 g_are_columns := (has_w (k := 3) e_are_columns (df_of X G c.d 18) sc_are_columns bn_are_columns rfl rfl rfl ⟨fnsC h_is_column (by decide) (fns0), consI (He.int_ok X G (c.d.fact 59 rfl)) (cons0), tabs0, B, excs0, hots0⟩).imp p_are_columns
  have h_is_book : Has P w K mg base "is_book" 8 1 g_is_book := (has_w (k := 7) e_is_book (df_of X G c.d 19) sc_is_book bn_is_book rfl rfl rfl ⟨fnsC h_are_named (by decide) (fnsC h_is_whole (by decide) (fnsC h_are_columns (by decide) (fns0))), consI (He.int_ok X G (c.d.fact 62 rfl)) (cons0), tabs0, B, excs0, hots0⟩).imp p_is_book
  have h_need_book : Has P w K mg base "need_book" 9 1 g_need_book := (has_w (k := 8) e_need_book (df_of X G c.d 20) sc_need_book bn_need_book rfl rfl rfl ⟨fnsC h_is_book (by decide) (fns0), cons0, tabs0, B, excs_of X G c (by decide +kernel), hots0⟩).imp p_need_book
  have h_is_table : Has P w K mg base "is_table" 10 2 g_is_table := (has_w (k := 9) e_is_table (df_of X G c.d 21) sc_is_table bn_is_table rfl rfl rfl ⟨fnsC h_is_row (by decide) (fnsC h_need_book (by decide) (fns0)), cons0, tabs0, B, excs0, hots0⟩).imp p_is_table
  have h_need_table : Has P w K mg base "need_table" 11 2 g_need_table := (has_w (k := 10) e_need_table (df_of X G c.d 22) sc_need_table bn_need_table rfl rfl rfl ⟨fnsC h_is_table (by decide) (fns0), cons0, tabs0, B, excs_of X G c (by decide +kernel), hots0⟩).imp p_need_table
  have h_broken : Has P w K mg base "broken" 12 2 g_broken := (has_w (k := 11) e_broken (df_of X G c.d 23) sc_broken bn_broken rfl rfl rfl ⟨fnsC h_table_keeps (by decide) (fnsC h_need_table (by decide) (fns0)), cons0, tabs0, B, excs0, hots0⟩).imp p_broken
  have h__law_says : Has P w K mg base "_law_says" 1 2 g__law_says := (has_w (k := 0) e__law_says (df_of X G c.d 24) sc__law_says bn__law_says rfl rfl rfl ⟨fns0, cons0, tabs0, B, excs0, hots0⟩).imp p__law_says
  have h__law_spot : Has P w K mg base "_law_spot" 1 2 g__law_spot := (has_w (k := 0) e__law_spot (df_of X G c.d 25) sc__law_spot bn__law_spot rfl rfl rfl ⟨fns0, cons0, tabs0, B, excs0, hots0⟩).imp p__law_spot
  have h__law_row_keeps : Has P w K mg base "_law_row_keeps" 2 3 g__law_row_keeps := (has_w (k := 1) e__law_row_keeps (df_of X G c.d 26) sc__law_row_keeps bn__law_row_keeps rfl rfl rfl ⟨fnsC h__law_spot (by decide) (fns0), cons0, tabs0, B, excs0, hots0⟩).imp p__law_row_keeps
  have h__law_keeps : Has P w K mg base "_law_keeps" 3 3 g__law_keeps := (has_w (k := 2) e__law_keeps (df_of X G c.d 27) sc__law_keeps bn__law_keeps rfl rfl rfl ⟨fnsC h__law_spot (by decide) (fnsC h__law_row_keeps (by decide) (fns0)), cons0, tabs0, B, excs0, hots0⟩).imp p__law_keeps
  have h__law_right : Has P w K mg base "_law_right" 13 2 g__law_right := (has_w (k := 12) e__law_right (df_of X G c.d 28) sc__law_right bn__law_right rfl rfl rfl ⟨fnsC h_broken (by decide) (fnsC h__law_says (by decide) (fnsC h__law_row_keeps (by decide) (fnsC h_row_keeps (by decide) (fnsC h_table_keeps (by decide) (fnsC h__law_keeps (by decide) (fns0)))))), cons0, tabs0, B, excs0, hots0⟩).imp p__law_right
  have h__law_take : Has P w K mg base "_law_take" 1 2 g__law_take := ((has_w (k := 0) e__law_take (df_of X G c.d 29) sc__law_take bn__law_take rfl rfl rfl ⟨fns0, cons0, tabs0, B, excs0, hots0⟩).imp p__law_take0).impW p__law_take
  have h__law_rows : Has P w K mg base "_law_rows" 1 1 g__law_rows := (has_w (k := 0) e__law_rows (df_of X G c.d 30) sc__law_rows bn__law_rows rfl rfl rfl ⟨fns0, cons0, tabs0, B, excs0, hots0⟩).imp p__law_rows
  have h__law_word : Has P w K mg base "_law_word" 2 1 g__law_word := (has_w (k := 1) e__law_word (df_of X G c.d 31) sc__law_word bn__law_word rfl rfl rfl ⟨fnsC h__law_take (by decide) (fns0), cons0, tabs0, B, excs0, hots0⟩).imp p__law_word
  have h__law_some : Has P w K mg base "_law_some" 2 2 g__law_some := (has_w (k := 1) e__law_some (df_of X G c.d 32) sc__law_some bn__law_some rfl rfl rfl ⟨fnsC h__law_take (by decide) (fns0), cons0, tabs0, B, excs0, hots0⟩).imp p__law_some
  have h__law_span : Has P w K mg base "_law_span" 2 2 g__law_span := (has_w (k := 1) e__law_span (df_of X G c.d 33) sc__law_span bn__law_span rfl rfl rfl ⟨fnsC h__law_take (by decide) (fns0), cons0, tabs0, B, excs0, hots0⟩).imp p__law_span
  have h__law_rule : Has P w K mg base "_law_rule" 3 3 g__law_rule := (has_w (k := 2) e__law_rule (df_of X G c.d 34) sc__law_rule bn__law_rule rfl rfl rfl ⟨fnsC h__law_take (by decide) (fnsC h__law_some (by decide) (fnsC h__law_span (by decide) (fns0))), cons0, tabs0, B, excs0, hots0⟩).imp p__law_rule
  have h__law_columns : Has P w K mg base "_law_columns" 3 3 g__law_columns := (has_w (k := 2) e__law_columns (df_of X G c.d 35) sc__law_columns bn__law_columns rfl rfl rfl ⟨fnsC h__law_take (by decide) (fnsC h__law_word (by decide) (fns0)), cons0, tabs0, B, excs0, hots0⟩).imp p__law_columns
  have h__law_book : Has P w K mg base "_law_book" 4 5 g__law_book := (has_w (k := 3) e__law_book (df_of X G c.d 36) sc__law_book bn__law_book rfl rfl rfl ⟨fnsC h__law_take (by decide) (fnsC h__law_word (by decide) (fnsC h__law_rule (by decide) (fnsC h__law_columns (by decide) (fns0)))), cons0, tabs0, B, excs0, hots0⟩).imp p__law_book
  have h__law_well : Has P w K mg base "_law_well" 1 2 g__law_well := (has_w (k := 0) e__law_well (df_of X G c.d 37) sc__law_well bn__law_well rfl rfl rfl ⟨fns0, cons0, tabs0, B, excs0, hots0⟩).imp p__law_well
  have h1 := ok_def (P := P) (w := w) (base := base) (k := 13) (C := c_law) (st := s_law) (x := "law") F sc_law rfl rfl rfl ⟨fnsC h__law_right (by decide) (fnsC h__law_take (by decide) (fnsC h__law_rows (by decide) (fnsC h__law_book (by decide) (fnsC h__law_well (by decide) (fns0))))), cons0, tabs0, B, excs0, hots0⟩
  unfold defSem at h1
  rw [e_law] at h1
  exact h1
end
end K
open PySem PySem.W PySem.Calls PyProof.Rows
theorem PySem.Challenge.cw_rowmint_k04_what_is_broken_holds : PySem.Challenge.rw_rowmint_k04_what_is_broken.Holds := by
  w_on; o_law
  refine HandSHeadRun.head_any (r := OpenLaw.row PySem.Challenge.rw_rowmint_k04_what_is_broken) (q := view (OpenLaw.row PySem.Challenge.rw_rowmint_k04_what_is_broken).prog [57]) (H := K.hk) (ob := K.ob) (M := 6000) (loose := K.lo) (d := HandSHeadRun.topDef (OpenLaw.row PySem.Challenge.rw_rowmint_k04_what_is_broken).prog 57) (kwd := []) K.ob_eq
    (by kernel_rfl) (fun s => by kernel_rfl) K.run (by kernel_rfl) (by kernel_rfl) (by kernel_rfl) (by rfl) (by first | assumption | decide +kernel) (by decide +kernel) ⟨rfl, rfl, rfl, rfl, rfl, by decide +kernel⟩ ?hw ?hc
  case hw => w_witness2
  case hc =>
    refine FL.walkM (l := PySem.Challenge.rw_rowmint_k04_what_is_broken) (n := 63) (k := 14) (x := "_law_script") rfl (by decide) (by kernel_rfl) ⟨rfl, by decide, by decide⟩ ?F
    intro w mg fa h Y G hmg0
    obtain ⟨K', KX, c⟩ := Y
    have hmg : mg ("law" : PySem.Str) = some (.ref fa) := by
      have e : (HandSHeadRun.topDef (OpenLaw.row PySem.Challenge.rw_rowmint_k04_what_is_broken).prog 57).name = ("law" : PySem.Str) := by kernel_rfl
      rw [← e]
      exact hmg0
    obtain ⟨fd, hb, hF⟩ := K.facts (P := (PySem.Challenge.rw_rowmint_k04_what_is_broken).prog) (w := w) KX G hmg c
    exact ⟨K', fd, _, KX, hb, fun ns hl => FL.p_law_k04 [.scr ns] _ _ _ ⟨hl, rfl⟩, hF⟩
