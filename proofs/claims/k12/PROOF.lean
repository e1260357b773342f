import PyProof.Rows.All
import HandS.ForMost
import HandS.ForExc
import HandS.Conv
import KE.DataEq
import KE.DataCmp
import KE.DataAny
import KE.DataMinMax
import KE.SortData
import PyProof.ReprRoads
import HandS.TupAny
import HandS.TupMul
import HandS.Style
import KE.GoesNew
import KE.GoesMore
import HandS.More
import PyProof.ReprLen
import PyProof.ReprBulk
import KE.GoesZip
import HandS.Star
import HandS.IsInst
import HandS.TupLe
import Wide.All
import OpenK.AllK
import Wide.FinOn
import PySem.Challenge.RW_longernearer_k12_whole_what_serves_and_i
set_option Elab.async false
set_option linter.all false
set_option maxRecDepth 100000
set_option maxHeartbeats 4000000
/-! Pd1: pure data (PyData) in an abstract heap; avoid sets; slots; states. -/
namespace Pd
open PySem L2

/-- bounds and such that compute -/
abbrev ltB (i n : Nat) : Prop := Nat.ble (i + 1) n = true
abbrev leB (i n : Nat) : Prop := Nat.ble i n = true
theorem ltB.lt {i n : Nat} (h : ltB i n) : i < n := Nat.le_of_ble_eq_true h
theorem leB.le {i n : Nat} (h : leB i n) : i ≤ n := Nat.le_of_ble_eq_true h
theorem leB.of {i n : Nat} (h : i ≤ n) : leB i n := Nat.ble_eq_true_of_le h
def ndB : List Nat → Bool
  | [] => true
  | i :: r => !(r.contains i) && ndB r
theorem ndB.nd : ∀ {l : List Nat}, ndB l = true → l.Nodup
  | [], _ => List.nodup_nil
  | i :: r, h => by
    unfold ndB at h
    rw [Bool.and_eq_true] at h
    refine List.nodup_cons.mpr ⟨fun q => ?_, ndB.nd h.2⟩
    have := h.1
    rw [Bool.not_eq_true', List.contains_eq_mem] at this
    exact absurd q (of_decide_eq_false this)
abbrev Av := Addr → Prop
abbrev Fo := Nat → List Addr
/-- written lists and tuples of the fragment -/
def Kl (K : PySem.W.Frag) (a : Addr) (xs : List V) : Prop :=
  ∃ (o : Obj) (its : Array Value) (n : Nat), K.lookup a = some o ∧ o.cls = .type "list" ∧ o.dict = none ∧ o.data = .seq its n ∧ its.size ≤ sizeLine ∧ Vals xs its.toList
def LsAt (K : PySem.W.Frag) (W : Av) (H : Hp) (a : Addr) (xs : List V) : Prop := H a = some (.lst xs) ∧ ¬ W a
def TpAt (K : PySem.W.Frag) (W : Av) (H : Hp) (a : Addr) (xs : List V) : Prop := H a = some (.tup xs) ∧ ¬ W a
theorem LsAt.sq {K : PySem.W.Frag} {W : Av} {H : Hp} {a : Addr} {xs : List V} (h : LsAt K W H a xs) : SqL K H a xs := SqL.of h.1
theorem TpAt.sq {K : PySem.W.Frag} {W : Av} {H : Hp} {a : Addr} {xs : List V} (h : TpAt K W H a xs) : SqT K H a xs := SqT.of h.1
/-- H' has what H has outside of W; what is in W' was in W or is new -/
structure Mv (W : Av) (H : Hp) (W' : Av) (H' : Hp) : Prop where
  k : ∀ a o, H a = some o → ¬ W a → H' a = some o
  v : ∀ a, W' a → W a ∨ H a = none
theorem Rd.mv {W W' : Av} {H H' : Hp} {a : Addr} {u : HO} (m : Mv W H W' H') (h : Rd H a u) (n : ¬ W a) : Rd H' a u ∧ ¬ W' a := by
  rcases h with h | ⟨o, h⟩
  · refine ⟨.inl (m.k _ _ h n), fun q => ?_⟩
    rcases m.v _ q with q | q
    · exact n q
    · rw [h] at q; cases q
  · refine ⟨.inr ⟨o, m.k _ _ h n⟩, fun q => ?_⟩
    rcases m.v _ q with q | q
    · exact n q
    · rw [h] at q; cases q
theorem LsAt.mv {K : PySem.W.Frag} {W W' : Av} {H H' : Hp} {a : Addr} {xs : List V} (m : Mv W H W' H') (h : LsAt K W H a xs) : LsAt K W' H' a xs := by
  refine ⟨m.k _ _ h.1 h.2, fun q => ?_⟩
  rcases m.v _ q with q | q
  · exact h.2 q
  · rw [h.1] at q; cases q
theorem TpAt.mv {K : PySem.W.Frag} {W W' : Av} {H H' : Hp} {a : Addr} {xs : List V} (m : Mv W H W' H') (h : TpAt K W H a xs) : TpAt K W' H' a xs := by
  refine ⟨m.k _ _ h.1 h.2, fun q => ?_⟩
  rcases m.v _ q with q | q
  · exact h.2 q
  · rw [h.1] at q; cases q

/-- a key as data -/
def keyD : Key → PyData
  | .inl i => .int i
  | .inr s => .str s
/-- what a dict at a holds, its keys as data; tk: keys are tuples -/
def DcIs (H : Hp) (a : Addr) (es : List (PyData × V)) (u : HO → Prop) : Prop :=
  (∃ ks : List (Key × V), u (.dK ks) ∧ es = ks.map fun p => (keyD p.1, p.2)) ∨
  (∃ ks : List (List Key × V), u (.dT ks) ∧ es = ks.map fun p => (PyData.tuple (p.1.map keyD), p.2))
def DcAt (W : Av) (H : Hp) (a : Addr) (es : List (PyData × V)) : Prop := DcIs H a es (fun o => Rd H a o) ∧ ¬ W a
theorem DcAt.mv {W W' : Av} {H H' : Hp} {a : Addr} {es : List (PyData × V)} (m : Mv W H W' H') (h : DcAt W H a es) : DcAt W' H' a es := by
  obtain ⟨⟨ks, h, e⟩ | ⟨ks, h, e⟩, n⟩ := h
  · exact ⟨.inl ⟨ks, (Rd.mv m h n).1, e⟩, (Rd.mv m h n).2⟩
  · exact ⟨.inr ⟨ks, (Rd.mv m h n).1, e⟩, (Rd.mv m h n).2⟩

mutual
/-- the value v is the data d, at addresses outside of W -/
def Has (K : PySem.W.Frag) (W : Av) (H : Hp) : PyData → V → Prop
  | .none, v => v = .non
  | .bool b, v => v = .bl b
  | .int i, v => v = .int i
  | .str s, v => v = .str s
  | .list l, v => l.length ≤ sizeLine ∧ ∃ a xs, v = .ref a ∧ LsAt K W H a xs ∧ HasL K W H l xs
  | .tuple l, v => l.length ≤ sizeLine ∧ ∃ a xs, v = .ref a ∧ TpAt K W H a xs ∧ HasL K W H l xs
  | .dict l, v => l.length ≤ sizeLine ∧ ∃ a es, v = .ref a ∧ DcAt W H a es ∧ HasK K W H l es
def HasL (K : PySem.W.Frag) (W : Av) (H : Hp) : List PyData → List V → Prop
  | [], xs => xs = []
  | d :: ds, xs => ∃ x r, xs = x :: r ∧ Has K W H d x ∧ HasL K W H ds r
def HasK (K : PySem.W.Frag) (W : Av) (H : Hp) : List (PyData × PyData) → List (PyData × V) → Prop
  | [], es => es = []
  | (k, d) :: ds, es => ∃ x r, es = (k, x) :: r ∧ Has K W H d x ∧ HasK K W H ds r
end

mutual
theorem Has.mv {K : PySem.W.Frag} {W W' : Av} {H H' : Hp} (m : Mv W H W' H') : ∀ (d : PyData) (v : V), Has K W H d v → Has K W' H' d v
  | .none, v, h => by unfold Has at h ⊢; exact h
  | .bool b, v, h => by unfold Has at h ⊢; exact h
  | .int i, v, h => by unfold Has at h ⊢; exact h
  | .str s, v, h => by unfold Has at h ⊢; exact h
  | .list l, v, h => by
    unfold Has at h ⊢
    obtain ⟨z, a, xs, e, p, q⟩ := h
    exact ⟨z, a, xs, e, p.mv m, HasL.mv m l xs q⟩
  | .tuple l, v, h => by
    unfold Has at h ⊢
    obtain ⟨z, a, xs, e, p, q⟩ := h
    exact ⟨z, a, xs, e, p.mv m, HasL.mv m l xs q⟩
  | .dict l, v, h => by
    unfold Has at h ⊢
    obtain ⟨z, a, xs, e, p, q⟩ := h
    exact ⟨z, a, xs, e, p.mv m, HasK.mv m l xs q⟩
theorem HasL.mv {K : PySem.W.Frag} {W W' : Av} {H H' : Hp} (m : Mv W H W' H') : ∀ (d : List PyData) (v : List V), HasL K W H d v → HasL K W' H' d v
  | [], v, h => by unfold HasL at h ⊢; exact h
  | d :: ds, v, h => by
    unfold HasL at h ⊢
    obtain ⟨x, r, e, p, q⟩ := h
    exact ⟨x, r, e, Has.mv m d x p, HasL.mv m ds r q⟩
theorem HasK.mv {K : PySem.W.Frag} {W W' : Av} {H H' : Hp} (m : Mv W H W' H') : ∀ (d : List (PyData × PyData)) (v : List (PyData × V)), HasK K W H d v → HasK K W' H' d v
  | [], v, h => by unfold HasK at h ⊢; exact h
  | (k, d) :: ds, v, h => by
    unfold HasK at h ⊢
    obtain ⟨x, r, e, p, q⟩ := h
    exact ⟨x, r, e, Has.mv m d x p, HasK.mv m ds r q⟩
end
theorem HasL.length {K : PySem.W.Frag} {W : Av} {H : Hp} : ∀ {l : List PyData} {xs : List V}, HasL K W H l xs → xs.length = l.length
  | [], xs, h => by unfold HasL at h; subst h; rfl
  | d :: ds, xs, h => by
    unfold HasL at h
    obtain ⟨x, r, rfl, _, q⟩ := h
    simp [q.length]
theorem HasL.get {K : PySem.W.Frag} {W : Av} {H : Hp} : ∀ {l : List PyData} {xs : List V} {i : Nat} {d : PyData}, HasL K W H l xs → l[i]? = some d → ∃ x, xs[i]? = some x ∧ Has K W H d x
  | [], xs, i, d, h, e => by simp at e
  | c :: ds, xs, 0, d, h, e => by
    unfold HasL at h
    obtain ⟨x, r, rfl, p, q⟩ := h
    simp at e; subst e
    exact ⟨x, rfl, p⟩
  | c :: ds, xs, i + 1, d, h, e => by
    unfold HasL at h
    obtain ⟨x, r, rfl, p, q⟩ := h
    simp at e
    obtain ⟨y, e1, e2⟩ := q.get (i := i) e
    exact ⟨y, by simpa using e1, e2⟩
theorem HasL.get' {K : PySem.W.Frag} {W : Av} {H : Hp} {l : List PyData} {xs : List V} {i : Nat} {x : V} (h : HasL K W H l xs) (e : xs[i]? = some x) : ∃ d, l[i]? = some d ∧ Has K W H d x := by
  have hi : i < l.length := by
    rw [← h.length]
    exact (List.getElem?_eq_some_iff.mp e).1
  obtain ⟨y, e1, p⟩ := h.get (i := i) (d := l[i]) (by simp [hi])
  rw [e] at e1; cases e1
  exact ⟨l[i], by simp [hi], p⟩
theorem HasL.nil {K : PySem.W.Frag} {W : Av} {H : Hp} : HasL K W H [] [] := by unfold HasL; rfl
theorem HasL.cons {K : PySem.W.Frag} {W : Av} {H : Hp} {d : PyData} {ds : List PyData} {x : V} {xs : List V} (p : Has K W H d x) (q : HasL K W H ds xs) : HasL K W H (d :: ds) (x :: xs) := by
  unfold HasL; exact ⟨x, xs, rfl, p, q⟩
theorem HasL.append {K : PySem.W.Frag} {W : Av} {H : Hp} : ∀ {l l' : List PyData} {xs xs' : List V}, HasL K W H l xs → HasL K W H l' xs' → HasL K W H (l ++ l') (xs ++ xs')
  | [], l', xs, xs', h, h' => by unfold HasL at h; subst h; exact h'
  | d :: ds, l', xs, xs', h, h' => by
    unfold HasL at h
    obtain ⟨x, r, rfl, p, q⟩ := h
    exact .cons p (q.append h')
theorem HasL.one {K : PySem.W.Frag} {W : Av} {H : Hp} {d : PyData} {x : V} (p : Has K W H d x) : HasL K W H [d] [x] := .cons p .nil
theorem HasL.set {K : PySem.W.Frag} {W : Av} {H : Hp} {d : PyData} {x : V} (p : Has K W H d x) : ∀ {l : List PyData} {xs : List V} (i : Nat), HasL K W H l xs → HasL K W H (l.set i d) (xs.set i x)
  | [], xs, i, h => by unfold HasL at h; subst h; exact .nil
  | c :: ds, xs, 0, h => by
    unfold HasL at h
    obtain ⟨y, r, rfl, _, q⟩ := h
    exact .cons p q
  | c :: ds, xs, i + 1, h => by
    unfold HasL at h
    obtain ⟨y, r, rfl, p', q⟩ := h
    exact .cons p' (HasL.set p i q)
theorem HasL.drop {K : PySem.W.Frag} {W : Av} {H : Hp} : ∀ {l : List PyData} {xs : List V} (i : Nat), HasL K W H l xs → HasL K W H (l.drop i) (xs.drop i)
  | l, xs, 0, h => h
  | [], xs, i + 1, h => by unfold HasL at h; subst h; exact .nil
  | c :: ds, xs, i + 1, h => by
    unfold HasL at h
    obtain ⟨y, r, rfl, p', q⟩ := h
    exact q.drop i
theorem HasL.take {K : PySem.W.Frag} {W : Av} {H : Hp} : ∀ {l : List PyData} {xs : List V} (i : Nat), HasL K W H l xs → HasL K W H (l.take i) (xs.take i)
  | l, xs, 0, h => .nil
  | [], xs, i + 1, h => by unfold HasL at h; subst h; exact .nil
  | c :: ds, xs, i + 1, h => by
    unfold HasL at h
    obtain ⟨y, r, rfl, p', q⟩ := h
    exact .cons p' (q.take i)
theorem HasL.eraseIdx {K : PySem.W.Frag} {W : Av} {H : Hp} : ∀ {l : List PyData} {xs : List V} (i : Nat), HasL K W H l xs → HasL K W H (l.eraseIdx i) (xs.eraseIdx i)
  | [], xs, i, h => by unfold HasL at h; subst h; exact .nil
  | c :: ds, xs, 0, h => by
    unfold HasL at h
    obtain ⟨y, r, rfl, p', q⟩ := h
    exact q
  | c :: ds, xs, i + 1, h => by
    unfold HasL at h
    obtain ⟨y, r, rfl, p', q⟩ := h
    exact .cons p' (q.eraseIdx i)
theorem HasL.rep {K : PySem.W.Frag} {W : Av} {H : Hp} {l : List PyData} {xs : List V} (h : HasL K W H l xs) : ∀ n : Nat, HasL K W H (List.replicate n l).flatten (List.replicate n xs).flatten
  | 0 => .nil
  | n + 1 => by
    rw [List.replicate_succ, List.replicate_succ, List.flatten_cons, List.flatten_cons]
    exact h.append (h.rep n)
theorem HasL.ints {K : PySem.W.Frag} {W : Av} {H : Hp} : ∀ ns : List Int, HasL K W H (ns.map .int) (ns.map .int)
  | [] => .nil
  | n :: ns => .cons (by unfold Has; rfl) (HasL.ints ns)

/-! ### slots -/
inductive Sl where
  /-- nothing is known -/
  | no
  /-- data that nobody changes -/
  | sh (d : PyData)
  /-- a list of one's own; b: handed in -/
  | ol (b : Bool) (l : List PyData)
  /-- a dict of one's own; b: handed in; t: its keys are tuples -/
  | od (b t : Bool) (l : List (PyData × PyData))
  /-- the thing one draws of -/
  | pot (b : Bool)
  /-- the script -/
  | scr (ns : List Int)
def Sl.isB : Sl → Bool
  | .ol b _ => b
  | .od b _ _ => b
  | .pot b => b
  | _ => false
/-- what a def hands back -/
inductive R where
  | sh (d : PyData)
  | ol (l : List PyData)
  | od (t : Bool) (l : List (PyData × PyData))
  | pot
  | scr (ns : List Int)
def R.sl : R → Sl
  | .sh d => .sh d
  | .ol l => .ol false l
  | .od t l => .od false t l
  | .pot => .pot false
  | .scr ns => .scr ns
/-- the script stands, read only -/
def ScOk (K : PySem.W.Frag) (W : Av) (H : Hp) (ns : List Int) (v : V) : Prop := ∃ a, v = .ref a ∧ ((∃ o, H a = some (.frz o (.lst (ns.map V.int))) ∧ ¬ W a) ∨ Kl K a (ns.map V.int))
theorem ScOk.mv {K : PySem.W.Frag} {W W' : Av} {H H' : Hp} {ns : List Int} {v : V} (m : Mv W H W' H') (h : ScOk K W H ns v) : ScOk K W' H' ns v := by
  obtain ⟨a, e, ⟨o, h, n⟩ | h⟩ := h
  · refine ⟨a, e, .inl ⟨o, m.k _ _ h n, fun q => ?_⟩⟩
    rcases m.v _ q with q | q
    · exact n q
    · rw [h] at q; cases q
  · exact ⟨a, e, .inr h⟩
theorem ScOk.sq {K : PySem.W.Frag} {W : Av} {H : Hp} {ns : List Int} {v : V} (h : ScOk K W H ns v) : ∃ a, v = .ref a ∧ SqL K H a (ns.map V.int) := by
  obtain ⟨a, e, ⟨o, h, n⟩ | h⟩ := h
  · exact ⟨a, e, .inl (.inr ⟨o, h⟩)⟩
  · exact ⟨a, e, .inr h⟩
/-- the written part and what a pot is -/
structure Wd where
  K : PySem.W.Frag
  pt : Hp → List Addr → V → Prop
  mv : ∀ {H H' : Hp} {f : List Addr} {v : V}, pt H f v → (∀ a ∈ f, H' a = H a) → pt H' f v
  tr : ∀ {H : Hp} {f : List Addr} {v : V}, pt H f v → ∀ a ∈ f, H a ≠ none
  hd : ∀ {H : Hp} {f : List Addr} {v : V}, pt H f v → ∃ a r, f = a :: r ∧ v = .ref a
def DcM (H : Hp) (a : Addr) (t : Bool) (es : List (PyData × V)) : Prop := match t with
  | false => ∃ ks : List (Key × V), H a = some (.dK ks) ∧ es = ks.map fun p => (keyD p.1, p.2)
  | true => ∃ ks : List (List Key × V), H a = some (.dT ks) ∧ es = ks.map fun p => (PyData.tuple (p.1.map keyD), p.2)
theorem DcM.at {H : Hp} {a : Addr} {t : Bool} {es : List (PyData × V)} {W : Av} (h : DcM H a t es) (n : ¬ W a) : DcAt W H a es := by
  cases t with
  | false =>
    obtain ⟨ks, h, e⟩ := h
    exact ⟨.inl ⟨ks, .inl h, e⟩, n⟩
  | true =>
    obtain ⟨ks, h, e⟩ := h
    exact ⟨.inr ⟨ks, .inl h, e⟩, n⟩
theorem DcM.eq {H H' : Hp} {a : Addr} {t : Bool} {es : List (PyData × V)} (h : DcM H a t es) (e : H' a = H a) : DcM H' a t es := by
  cases t with
  | false =>
    obtain ⟨ks, h, q⟩ := h
    exact ⟨ks, e.trans h, q⟩
  | true =>
    obtain ⟨ks, h, q⟩ := h
    exact ⟨ks, e.trans h, q⟩
theorem DcM.tr {H : Hp} {a : Addr} {t : Bool} {es : List (PyData × V)} (h : DcM H a t es) : H a ≠ none := by
  cases t with
  | false =>
    obtain ⟨ks, h, q⟩ := h
    rw [h]; simp
  | true =>
    obtain ⟨ks, h, q⟩ := h
    rw [h]; simp
/-- a value with what it owns (f): shared, or one's own -/
def Ow (G : Wd) (W : Av) (H : Hp) (f : List Addr) (v : V) : R → Prop
  | .sh d => f = [] ∧ Has G.K W H d v
  | .ol l => l.length ≤ sizeLine ∧ ∃ a xs, v = .ref a ∧ f = [a] ∧ H a = some (.lst xs) ∧ HasL G.K W H l xs
  | .od t l => l.length ≤ sizeLine ∧ ∃ a es, v = .ref a ∧ f = [a] ∧ DcM H a t es ∧ HasK G.K W H l es
  | .pot => G.pt H f v
  | .scr ns => f = [] ∧ ScOk G.K W H ns v
def Sl.r : Sl → Option R
  | .no => none
  | .sh d => some (.sh d)
  | .ol _ l => some (.ol l)
  | .od _ t l => some (.od t l)
  | .pot _ => some .pot
  | .scr ns => some (.scr ns)
def SlOk (G : Wd) (W : Av) (H : Hp) (f : List Addr) (x : Option V) (s : Sl) : Prop :=
  match s.r with
  | none => f = []
  | some r => ∃ v, x = some v ∧ Ow G W H f v r
theorem Ow.mv {G : Wd} {W W' : Av} {H H' : Hp} {f : List Addr} {v : V} {r : R} (m : Mv W H W' H') (e : ∀ a ∈ f, H' a = H a) (h : Ow G W H f v r) : Ow G W' H' f v r := by
  cases r with
  | sh d => exact ⟨h.1, Has.mv m _ _ h.2⟩
  | ol l =>
    obtain ⟨z, a, xs, h1, h2, h3, h4⟩ := h
    subst h2
    exact ⟨z, a, xs, h1, rfl, (e a (by simp)).trans h3, HasL.mv m _ _ h4⟩
  | od t l =>
    obtain ⟨z, a, xs, h1, h2, h3, h4⟩ := h
    subst h2
    exact ⟨z, a, xs, h1, rfl, h3.eq (e a (by simp)), HasK.mv m _ _ h4⟩
  | pot => exact G.mv h e
  | scr ns => exact ⟨h.1, h.2.mv m⟩
theorem Ow.tr {G : Wd} {W : Av} {H : Hp} {f : List Addr} {v : V} {r : R} (h : Ow G W H f v r) : ∀ a ∈ f, H a ≠ none := by
  intro b hb
  cases r with
  | sh d => rw [h.1] at hb; cases hb
  | ol l =>
    obtain ⟨z, a, xs, h1, h2, h3, h4⟩ := h
    subst h2
    have e : b = a := by simpa using hb
    subst e
    rw [h3]; simp
  | od t l =>
    obtain ⟨z, a, xs, h1, h2, h3, h4⟩ := h
    subst h2
    have e : b = a := by simpa using hb
    subst e
    exact h3.tr
  | pot => exact G.tr h b hb
  | scr ns => rw [h.1] at hb; cases hb
theorem SlOk.mv {G : Wd} {W W' : Av} {H H' : Hp} {f : List Addr} {x : Option V} {s : Sl} (m : Mv W H W' H') (e : ∀ a ∈ f, H' a = H a) (h : SlOk G W H f x s) : SlOk G W' H' f x s := by
  unfold SlOk at h ⊢
  cases q : s.r with
  | none => rw [q] at h; exact h
  | some r =>
    rw [q] at h
    obtain ⟨v, h1, h2⟩ := h
    exact ⟨v, h1, h2.mv m e⟩
theorem SlOk.tr {G : Wd} {W : Av} {H : Hp} {f : List Addr} {x : Option V} {s : Sl} (h : SlOk G W H f x s) : ∀ a ∈ f, H a ≠ none := by
  unfold SlOk at h
  cases q : s.r with
  | none => rw [q] at h; intro a ha; rw [show f = [] from h] at ha; cases ha
  | some r =>
    rw [q] at h
    obtain ⟨v, h1, h2⟩ := h
    exact h2.tr

/-! ### states -/
def InF (F : Fo) (a : Addr) : Prop := ∃ i, a ∈ F i
def Vo (E : Av) (F : Fo) : Av := fun a => E a ∨ InF F a
structure Fr (H : Hp) (F : Fo) (H' : Hp) (F' : Fo) : Prop where
  keep : ∀ a o, H a = some o → ¬ InF F a → H' a = some o
  dom : ∀ a, H a ≠ none → H' a ≠ none
  new : ∀ a, InF F' a → InF F a ∨ H a = none
theorem Fr.refl (H : Hp) (F : Fo) : Fr H F H F := ⟨fun _ _ h _ => h, fun _ h => h, fun _ h => .inl h⟩
theorem Fr.trans {H H1 H2 : Hp} {F F1 F2 : Fo} (a : Fr H F H1 F1) (b : Fr H1 F1 H2 F2) : Fr H F H2 F2 where
  keep := fun p o h n => b.keep p o (a.keep p o h n) fun q => by
    rcases a.new p q with q | q
    · exact n q
    · rw [h] at q; cases q
  dom := fun p h => b.dom p (a.dom p h)
  new := fun p h => by
    rcases b.new p h with q | q
    · exact a.new p q
    · right
      cases e : H p with
      | none => rfl
      | some o => exact absurd q (a.dom p (by rw [e]; simp))
theorem Fr.none {H H' : Hp} {F F' : Fo} (a : Fr H F H' F') {p : Addr} (h : H' p = none) : H p = none := by
  cases e : H p with
  | none => rfl
  | some o => exact absurd h (a.dom p (by rw [e]; simp))
theorem Fr.mv {H H' : Hp} {F F' : Fo} (a : Fr H F H' F') (E : Av) : Mv (Vo E F) H (Vo E F') H' where
  k := fun p o h n => a.keep p o h fun q => n (.inr q)
  v := fun p h => by
    rcases h with h | h
    · exact .inl (.inl h)
    · rcases a.new p h with q | q
      · exact .inl (.inr q)
      · exact .inr q
/-- the state of a def's body: base heap Ha, what is not to be touched E, footprints at the entry Fa -/
structure St (G : Wd) (Ha : Hp) (E : Av) (Fa : Fo) (σ : L2.St) (H : Hp) (ρ : List Sl) (F : Fo) : Prop where
  len : ρ.length = σ.length
  sl : ∀ i s, ρ[i]? = some s → SlOk G (Vo E F) H (F i) (σ[i]?.join) s
  nof : ∀ i, ρ.length ≤ i → F i = []
  dj : ∀ i j a, a ∈ F i → a ∈ F j → i = j
  ex : ∀ a, InF F a → ¬ E a
  vd : ∀ a, E a → H a ≠ none
  fr : Fr Ha Fa H F
  bo : ∀ i s, ρ[i]? = some s → s.isB = true → F i = Fa i
  ub : ∀ i s, ρ[i]? = some s → s.isB = false → ∀ a ∈ F i, Ha a = none
section
variable {G : Wd} {Ha : Hp} {E : Av} {Fa : Fo} {σ : L2.St} {H : Hp} {ρ : List Sl} {F : Fo}
theorem St.fd (S : St G Ha E Fa σ H ρ F) {a : Addr} (h : InF F a) : H a ≠ none := by
  obtain ⟨i, hi⟩ := h
  by_cases hl : i < ρ.length
  · exact (S.sl i ρ[i] (by simp [hl])).tr a hi
  · rw [S.nof i (by omega)] at hi; cases hi
theorem St.vo (S : St G Ha E Fa σ H ρ F) {a : Addr} (h : Vo E F a) : H a ≠ none := by
  rcases h with h | h
  · exact S.vd a h
  · exact S.fd h
/-- temporaries put by, or taken back -/
theorem St.less {E' : Av} (S : St G Ha E Fa σ H ρ F) (h : ∀ a, E' a → E a) : St G Ha E' Fa σ H ρ F where
  len := S.len
  sl := fun i s e => (S.sl i s e).mv ⟨fun _ _ q _ => q, fun a q => by
    rcases q with q | q
    · exact .inl (.inl (h a q))
    · exact .inl (.inr q)⟩ fun _ _ => rfl
  nof := S.nof
  dj := S.dj
  ex := fun a q n => S.ex a q (h a n)
  vd := fun a q => S.vd a (h a q)
  fr := S.fr
  bo := S.bo
  ub := S.ub
end
def orF (E : Av) (f : List Addr) : Av := fun a => E a ∨ a ∈ f
end Pd

/-! Pd2: readings over states; arguments; built-in functions over data. -/
namespace Pd
open PySem L2

/-- an exception: its class's name, its fields -/
structure Exc where
  cls : Str
  fs : List (Str × PyData)
/-- an argument as it is held: the slot's own object, or a value -/
inductive AV where
  | vw (i : Nat)
  | rv (r : R)
abbrev XQ := Exc → List Sl → Prop
abbrev WE := List Sl → XQ → (R → List Sl → Prop) → Prop
abbrev WG := List Sl → XQ → (AV → List Sl → Prop) → Prop
abbrev WA := List Sl → XQ → (List AV → List Sl → Prop) → Prop
abbrev WT := List Sl → XQ → (Bool → List Sl → Prop) → Prop
def MonoE (w : WE) : Prop := ∀ ρ xq Q Q', (∀ r ρ', Q r ρ' → Q' r ρ') → w ρ xq Q → w ρ xq Q'
def MonoG (w : WG) : Prop := ∀ ρ xq Q Q', (∀ r ρ', Q r ρ' → Q' r ρ') → w ρ xq Q → w ρ xq Q'
def MonoA (w : WA) : Prop := ∀ ρ xq Q Q', (∀ r ρ', Q r ρ' → Q' r ρ') → w ρ xq Q → w ρ xq Q'
def MonoT (w : WT) : Prop := ∀ ρ xq Q Q', (∀ r ρ', Q r ρ' → Q' r ρ') → w ρ xq Q → w ρ xq Q'
/-- the classes of exceptions: their places -/
structure Xd where
  cls : Str → Option Addr
def XOk (G : Wd) (T : Xd) (W : Av) (H : Hp) (x : Exc) (cls : Value) (d : Option Addr) : Prop :=
  (∃ C, T.cls x.cls = some C ∧ cls = .ref C) ∧
    match x.fs with
    | [] => True
    | fs => ∃ dx vs, d = some dx ∧ H dx = some (.xd vs) ∧ vs.map (·.1) = fs.map (·.1) ∧ HasL G.K W H (fs.map (·.2)) (vs.map (·.2))
/-- what is wanted of exceptions -/
def XP (G : Wd) (T : Xd) (Ha : Hp) (E : Av) (Fa : Fo) (Wx : WX) (H : Hp) (F : Fo) (xq : XQ) : Prop :=
  ∀ x ρ' cls d σ' H' F', St G Ha E Fa σ' H' ρ' F' → Fr H F H' F' → XOk G T (Vo E F') H' x cls d → xq x ρ' → Wx cls d σ' H'
def AvOk (G : Wd) (W : Av) (H : Hp) (σ : L2.St) (f : List Addr) (v : V) : AV → Prop
  | .vw i => f = [] ∧ σ[i]? = some (some v)
  | .rv r => Ow G W H f v r
/-- behind the evaluation of an argument -/
structure Rs (G : Wd) (Ha : Hp) (E : Av) (Fa : Fo) (σ : L2.St) (H : Hp) (F : Fo) (av : AV) (ρ' : List Sl) (v : V) (H' : Hp) (F' : Fo) (f : List Addr) : Prop where
  st : St G Ha (orF E f) Fa σ H' ρ' F'
  fr : Fr H F H' F'
  ow : AvOk G (Vo (orF E f) F') H' σ f v av
  na : ∀ a ∈ f, Ha a = none
  nw : ∀ a ∈ f, InF F a ∨ H a = none
def tG (G : Wd) (T : Xd) (Wx : WX) (g : WG) : TE := fun σ H Q => ∃ Ha E Fa ρ F xq, St G Ha E Fa σ H ρ F ∧ XP G T Ha E Fa Wx H F xq ∧
  g ρ xq fun av ρ' => ∀ v H' F' f, Rs G Ha E Fa σ H F av ρ' v H' F' f → Q v H'
def ofE (w : WE) : WG := fun ρ xq Q => w ρ xq fun r ρ' => Q (.rv r) ρ'
abbrev tE (G : Wd) (T : Xd) (Wx : WX) (w : WE) : TE := tG G T Wx (ofE w)
def tTT (G : Wd) (T : Xd) (Wx : WX) (g : WT) : TT := fun σ H Q => ∃ Ha E Fa ρ F xq, St G Ha E Fa σ H ρ F ∧ XP G T Ha E Fa Wx H F xq ∧
  g ρ xq fun b ρ' => ∀ H' F', St G Ha E Fa σ H' ρ' F' → Fr H F H' F' → Q b H'

section
variable {G : Wd} {T : Xd} {Wx : WX} {Ha : Hp} {E : Av} {Fa : Fo} {σ : L2.St} {H : Hp} {ρ : List Sl} {F : Fo} {xq : XQ}
theorem ofE_mono {w : WE} (m : MonoE w) : MonoG (ofE w) := fun ρ xq Q Q' h q => m ρ xq _ _ (fun r ρ' => h (.rv r) ρ') q
theorem tG.mk {g : WG} {Q : VK} {Q0 : AV → List Sl → Prop} (m : MonoG g) (S : St G Ha E Fa σ H ρ F) (xp : XP G T Ha E Fa Wx H F xq) (h : g ρ xq Q0)
    (k : ∀ av ρ' v H' F' f, Q0 av ρ' → Rs G Ha E Fa σ H F av ρ' v H' F' f → Q v H') : tG G T Wx g σ H Q :=
  ⟨Ha, E, Fa, ρ, F, xq, S, xp, m _ _ _ _ (fun av ρ' q v H' F' f rs => k av ρ' v H' F' f q rs) h⟩
theorem tE.mk {g : WE} {Q : VK} {Q0 : R → List Sl → Prop} (m : MonoE g) (S : St G Ha E Fa σ H ρ F) (xp : XP G T Ha E Fa Wx H F xq) (h : g ρ xq Q0)
    (k : ∀ r ρ' v H' F' f, Q0 r ρ' → Rs G Ha E Fa σ H F (.rv r) ρ' v H' F' f → Q v H') : tE G T Wx g σ H Q :=
  ⟨Ha, E, Fa, ρ, F, xq, S, xp, m _ _ _ _ (fun av ρ' q v H' F' f rs => k av ρ' v H' F' f q rs) h⟩
theorem tTT.mk {g : WT} {Q : Bool → Hp → Prop} {Q0 : Bool → List Sl → Prop} (m : MonoT g) (S : St G Ha E Fa σ H ρ F) (xp : XP G T Ha E Fa Wx H F xq) (h : g ρ xq Q0)
    (k : ∀ b ρ' H' F', Q0 b ρ' → St G Ha E Fa σ H' ρ' F' → Fr H F H' F' → Q b H') : tTT G T Wx g σ H Q :=
  ⟨Ha, E, Fa, ρ, F, xq, S, xp, m _ _ _ _ (fun av ρ' q H' F' s f => k av ρ' H' F' q s f) h⟩
theorem XOk.mv {W W' : Av} {H' : Hp} {x : Exc} {cls : Value} {d : Option Addr} (m : ∀ a, W' a → W a) (h : XOk G T W H x cls d) : XOk G T W' H x cls d := by
  refine ⟨h.1, ?_⟩
  have h2 := h.2
  revert h2
  cases x.fs with
  | nil => exact fun h => h
  | cons p r =>
    rintro ⟨dx, vs, a, b, c, e⟩
    exact ⟨dx, vs, a, b, c, HasL.mv ⟨fun _ _ q _ => q, fun a q => .inl (m a q)⟩ _ _ e⟩
theorem XP.step {H' : Hp} {F' : Fo} (h : XP G T Ha E Fa Wx H F xq) (f : Fr H F H' F') : XP G T Ha E Fa Wx H' F' xq :=
  fun x ρ' cls d σ' H2 F2 s f2 xo q => h x ρ' cls d σ' H2 F2 s (f.trans f2) xo q
theorem XP.more {E' : Av} (h : XP G T Ha E Fa Wx H F xq) (e : ∀ a, E a → E' a) : XP G T Ha E' Fa Wx H F xq :=
  fun x ρ' cls d σ' H2 F2 s f2 xo q => h x ρ' cls d σ' H2 F2 (s.less e) f2 (xo.mv (H' := H2) fun a q => by
    rcases q with q | q
    · exact .inl (e a q)
    · exact .inr q) q
theorem AvOk.mv {W W' : Av} {H' : Hp} {f : List Addr} {v : V} {av : AV} (m : Mv W H W' H') (e : ∀ a ∈ f, H' a = H a) (h : AvOk G W H σ f v av) : AvOk G W' H' σ f v av := by
  cases av with
  | vw i => exact h
  | rv r => exact Ow.mv m e h
theorem AvOk.tr {W : Av} {f : List Addr} {v : V} {av : AV} (h : AvOk G W H σ f v av) : ∀ a ∈ f, H a ≠ none := by
  cases av with
  | vw i => intro a ha; rw [h.1] at ha; cases ha
  | rv r => exact Ow.tr h
/-- what f owns is another's for those who come later -/
theorem Rs.tmp {av : AV} {ρ' : List Sl} {v : V} {H' : Hp} {F' : Fo} {f : List Addr} (r : Rs G Ha E Fa σ H F av ρ' v H' F' f) {a : Addr} (h : a ∈ f) : ¬ InF F' a := fun q => r.st.ex a q (.inr h)
/-- a temporary goes on behind a further evaluation -/
theorem AvOk.on {av av2 : AV} {ρ2 : List Sl} {v v2 : V} {H2 : Hp} {F2 : Fo} {f f2 : List Addr} {E1 : Av}
    (hE : ∀ a ∈ f, E1 a) (h : AvOk G (Vo E1 F) H σ f v av) (S : St G Ha E1 Fa σ H ρ F) (r : Rs G Ha E1 Fa σ H F av2 ρ2 v2 H2 F2 f2) :
    AvOk G (Vo (orF E1 f2) F2) H2 σ f v av := by
  refine h.mv ⟨fun a o e n => r.fr.keep a o e fun q => n (.inr q), fun a q => ?_⟩ fun a ha => ?_
  · rcases q with (q | q) | q
    · exact .inl (.inl q)
    · rcases r.nw a q with q | q
      · exact .inl (.inr q)
      · exact .inr q
    · rcases r.fr.new a q with q | q
      · exact .inl (.inr q)
      · exact .inr q
  · cases e : H a with
    | none => exact absurd e (h.tr a ha)
    | some o =>
      exact r.fr.keep a o e fun q => S.ex a q (hE a ha)
end

/-- a list of held arguments with what they own -/
inductive AvsOk (G : Wd) (W : Av) (H : Hp) (σ : L2.St) : List Addr → List V → List AV → Prop
  | nil : AvsOk G W H σ [] [] []
  | cons {f fs : List Addr} {v : V} {vs : List V} {av : AV} {avs : List AV} : AvOk G W H σ f v av → AvsOk G W H σ fs vs avs → AvsOk G W H σ (f ++ fs) (v :: vs) (av :: avs)
structure RsA (G : Wd) (Ha : Hp) (E : Av) (Fa : Fo) (σ : L2.St) (H : Hp) (F : Fo) (avs : List AV) (ρ' : List Sl) (vs : List V) (H' : Hp) (F' : Fo) (f : List Addr) : Prop where
  st : St G Ha (orF E f) Fa σ H' ρ' F'
  fr : Fr H F H' F'
  ow : AvsOk G (Vo (orF E f) F') H' σ f vs avs
  na : ∀ a ∈ f, Ha a = none
  nw : ∀ a ∈ f, InF F a ∨ H a = none
def tAs (G : Wd) (T : Xd) (Wx : WX) (g : WA) : TA := fun σ H Q => ∃ Ha E Fa ρ F xq, St G Ha E Fa σ H ρ F ∧ XP G T Ha E Fa Wx H F xq ∧
  g ρ xq fun av ρ' => ∀ v H' F' f, RsA G Ha E Fa σ H F av ρ' v H' F' f → Q v H'
def seqA : List WG → WA
  | [] => fun ρ xq Q => Q [] ρ
  | g :: gs => fun ρ xq Q => g ρ xq fun av ρ1 => seqA gs ρ1 xq fun avs ρ' => Q (av :: avs) ρ'
theorem seqA_mono : ∀ {gs : List WG}, (∀ g ∈ gs, MonoG g) → MonoA (seqA gs)
  | [], _ => fun ρ xq Q Q' h q => h _ _ q
  | g :: gs, m => fun ρ xq Q Q' h q => m g (by simp) ρ xq _ _ (fun av ρ1 q1 => seqA_mono (fun g' hg => m g' (by simp [hg])) ρ1 xq _ _ (fun avs ρ' q2 => h _ _ q2) q1) q
section
variable {G : Wd} {T : Xd} {Wx : WX} {Ha : Hp} {E : Av} {Fa : Fo} {σ : L2.St} {H : Hp} {ρ : List Sl} {F : Fo} {xq : XQ}
theorem orF_assoc {f g : List Addr} {a : Addr} : orF E (f ++ g) a ↔ orF (orF E f) g a := by
  unfold orF
  simp only [List.mem_append]
  constructor
  · rintro (h | h | h)
    · exact .inl (.inl h)
    · exact .inl (.inr h)
    · exact .inr h
  · rintro ((h | h) | h)
    · exact .inl h
    · exact .inr (.inl h)
    · exact .inr (.inr h)
theorem AvsOk.imp {W W' : Av} {f : List Addr} {vs : List V} {avs : List AV} (h : AvsOk G W H σ f vs avs) (e : ∀ a, W' a → W a) : AvsOk G W' H σ f vs avs := by
  induction h with
  | nil => exact .nil
  | cons p _ ih => exact .cons (p.mv ⟨fun _ _ q _ => q, fun a q => .inl (e a q)⟩ fun _ _ => rfl) ih
theorem RsA.nil (S : St G Ha E Fa σ H ρ F) : RsA G Ha E Fa σ H F [] ρ [] H F [] :=
  ⟨S.less fun a h => h.elim id fun h => (by cases h), .refl _ _, .nil, fun a h => (by cases h), fun a h => (by cases h)⟩
theorem RsA.cons {av : AV} {ρ1 ρ2 : List Sl} {v : V} {vs : List V} {H1 H2 : Hp} {F1 F2 : Fo} {f f2 : List Addr} {avs : List AV} (S : St G Ha E Fa σ H ρ F)
    (r : Rs G Ha E Fa σ H F av ρ1 v H1 F1 f) (q : RsA G Ha (orF E f) Fa σ H1 F1 avs ρ2 vs H2 F2 f2) : RsA G Ha E Fa σ H F (av :: avs) ρ2 (v :: vs) H2 F2 (f ++ f2) where
  st := q.st.less fun a h => orF_assoc.mp h
  fr := r.fr.trans q.fr
  ow := by
    have sub : ∀ a, Vo (orF E (f ++ f2)) F2 a → Vo (orF (orF E f) f2) F2 a := fun a h => by
      rcases h with h | h
      · exact .inl (orF_assoc.mp h)
      · exact .inr h
    refine .cons ?_ (q.ow.imp sub)
    refine r.ow.mv ⟨fun a o e n => q.fr.keep a o e fun z => n (.inr z), fun a z => ?_⟩ fun a ha => ?_
    · rcases sub a z with (z | z) | z
      · exact .inl (.inl z)
      · rcases q.nw a z with z | z
        · exact .inl (.inr z)
        · exact .inr z
      · rcases q.fr.new a z with z | z
        · exact .inl (.inr z)
        · exact .inr z
    · cases e : H1 a with
      | none => exact absurd e (r.ow.tr a ha)
      | some o => exact q.fr.keep a o e (r.tmp ha)
  na := fun a h => by
    rcases List.mem_append.mp h with h | h
    · exact r.na a h
    · exact q.na a h
  nw := fun a h => by
    rcases List.mem_append.mp h with h | h
    · exact r.nw a h
    · rcases q.nw a h with h | h
      · exact r.fr.new a h
      · exact .inr (r.fr.none h)
end

/-! ### what is read of held arguments -/
def R.d : R → Option PyData
  | .sh d => some d
  | .ol l => some (.list l)
  | .od _ l => some (.dict l)
  | .pot => none
  | .scr _ => none
def AV.d (ρ : List Sl) : AV → Option PyData
  | .vw i => (ρ[i]?).bind fun s => s.r.bind R.d
  | .rv r => r.d
def allD (ρ : List Sl) : List AV → Option (List PyData)
  | [] => some []
  | a :: as => (a.d ρ).bind fun d => (allD ρ as).map fun ds => d :: ds
/-- v may be read as d: the items stand outside of W -/
def Vw (K : PySem.W.Frag) (W : Av) (H : Hp) (d : PyData) (v : V) : Prop := match d with
  | .list l => l.length ≤ sizeLine ∧ ∃ a xs, v = .ref a ∧ H a = some (.lst xs) ∧ HasL K W H l xs
  | .dict l => l.length ≤ sizeLine ∧ ∃ a es, v = .ref a ∧ DcIs H a es (fun o => Rd H a o) ∧ HasK K W H l es
  | d => Has K W H d v
inductive VwL (K : PySem.W.Frag) (W : Av) (H : Hp) : List PyData → List V → Prop
  | nil : VwL K W H [] []
  | cons {d : PyData} {v : V} {ds : List PyData} {vs : List V} : Vw K W H d v → VwL K W H ds vs → VwL K W H (d :: ds) (v :: vs)
section
variable {G : Wd} {T : Xd} {Wx : WX} {Ha : Hp} {E : Av} {Fa : Fo} {σ : L2.St} {H : Hp} {ρ : List Sl} {F : Fo} {xq : XQ} {W : Av}
theorem Has.vw {K : PySem.W.Frag} : ∀ {d : PyData} {v : V}, Has K W H d v → Vw K W H d v
  | .none, v, h => h
  | .bool b, v, h => h
  | .int i, v, h => h
  | .str s, v, h => h
  | .list l, v, h => by
    unfold Has at h
    obtain ⟨z, a, xs, e, p, q⟩ := h
    exact ⟨z, a, xs, e, p.1, q⟩
  | .tuple l, v, h => h
  | .dict l, v, h => by
    unfold Has at h
    obtain ⟨z, a, xs, e, p, q⟩ := h
    exact ⟨z, a, xs, e, p.1, q⟩
theorem Ow.vw {f : List Addr} {v : V} {r : R} {d : PyData} (h : Ow G W H f v r) (e : r.d = some d) : Vw G.K W H d v := by
  cases r with
  | sh d' =>
    cases e
    exact h.2.vw
  | ol l =>
    cases e
    obtain ⟨z, a, xs, h1, h2, h3, h4⟩ := h
    exact ⟨z, a, xs, h1, h3, h4⟩
  | od t l =>
    cases e
    obtain ⟨z, a, xs, h1, h2, h3, h4⟩ := h
    exact ⟨z, a, xs, h1, (h3.at (W := fun _ => False) fun q => q).1, h4⟩
  | pot => cases e
  | scr ns => cases e
theorem AvOk.vw {f : List Addr} {v : V} {av : AV} {d : PyData} (S : ∀ (i : Nat) (s : Sl), ρ[i]? = some s → ∃ g, SlOk G W H g (σ[i]?.join) s) (h : AvOk G W H σ f v av) (e : av.d ρ = some d) : Vw G.K W H d v := by
  cases av with
  | vw i =>
    change ((ρ[i]?).bind fun s => s.r.bind R.d) = some d at e
    cases q : ρ[i]? with
    | none => rw [q] at e; cases e
    | some s =>
      rw [q] at e
      obtain ⟨g, p⟩ := S i s q
      unfold SlOk at p
      change (s.r.bind R.d) = some d at e
      cases q2 : s.r with
      | none => rw [q2] at e; cases e
      | some r =>
        rw [q2] at e p
        obtain ⟨v', p1, p2⟩ := p
        rw [h.2] at p1
        change some v = some v' at p1
        cases p1
        exact p2.vw e
  | rv r => exact Ow.vw h e
theorem AvsOk.vw {f : List Addr} {vs : List V} {avs : List AV} (S : ∀ (i : Nat) (s : Sl), ρ[i]? = some s → ∃ g, SlOk G W H g (σ[i]?.join) s) (h : AvsOk G W H σ f vs avs) : ∀ {ds : List PyData}, allD ρ avs = some ds → VwL G.K W H ds vs := by
  induction h with
  | nil => intro ds e; cases e; exact .nil
  | @cons f fs v vs av avs p r ih =>
    intro ds e
    unfold allD at e
    cases q : av.d ρ with
    | none => rw [q] at e; cases e
    | some d =>
      rw [q] at e
      change (allD ρ avs).map (fun ds => d :: ds) = some ds at e
      cases q2 : allD ρ avs with
      | none => rw [q2] at e; cases e
      | some ds' =>
        rw [q2] at e
        cases e
        exact .cons (p.vw S q) (ih q2)
/-- the result of something that changes nothing: its own objects are new -/
structure New (G : Wd) (W : Av) (H : Hp) (r : R) (v : V) (H' : Hp) (f : List Addr) : Prop where
  keep : ∀ a o, H a = some o → H' a = some o
  ow : Ow G (orF W f) H' f v r
  new : ∀ a ∈ f, H a = none
abbrev PwP := List PyData → (R → Prop) → Prop
def MonoP (p : PwP) : Prop := ∀ ds Q Q', (∀ r, Q r → Q' r) → p ds Q → p ds Q'
/-- what a function over data may ask -/
def rP (G : Wd) (p : PwP) : List V → Hp → VK → Prop := fun vs H Q => ∃ W ds, (∀ a, W a → H a ≠ none) ∧ VwL G.K W H ds vs ∧ p ds fun r => ∀ v H' f, New G W H r v H' f → Q v H'
def primW (p : PwP) (wa : WA) : WE := fun ρ xq Q => wa ρ xq fun avs ρ' => ∃ ds, allD ρ' avs = some ds ∧ p ds fun r => Q r ρ'
theorem primW_mono {p : PwP} {wa : WA} (mp : MonoP p) (m : MonoA wa) : MonoE (primW p wa) := fun ρ xq Q Q' h q => m ρ xq _ _ (fun avs ρ' ⟨ds, e, q⟩ => ⟨ds, e, mp _ _ _ (fun r => h r ρ') q⟩) q
theorem St.ext {H' : Hp} {f : List Addr} (S : St G Ha E Fa σ H ρ F) (k : ∀ a o, H a = some o → H' a = some o) (hf : ∀ a ∈ f, H a = none) (hf' : ∀ a ∈ f, H' a ≠ none) : St G Ha (orF E f) Fa σ H' ρ F where
  len := S.len
  sl := fun i s e => (S.sl i s e).mv ⟨fun a o q _ => k a o q, fun a q => by
    rcases q with (q | q) | q
    · exact .inl (.inl q)
    · exact .inr (hf a q)
    · exact .inl (.inr q)⟩ fun a ha => by
      cases q : H a with
      | none => exact absurd q (S.fd ⟨i, ha⟩)
      | some o => exact k a o q
  nof := S.nof
  dj := S.dj
  ex := fun a q n => by
    rcases n with n | n
    · exact S.ex a q n
    · exact S.fd q (hf a n)
  vd := fun a q => by
    rcases q with q | q
    · cases z : H a with
      | none => exact absurd z (S.vd a q)
      | some o => rw [k a o z]; simp
    · exact hf' a q
  fr := S.fr.trans ⟨fun a o q _ => k a o q, fun a q => by
      cases z : H a with
      | none => exact absurd z q
      | some o => rw [k a o z]; simp, fun a q => .inl q⟩
  bo := S.bo
  ub := S.ub
theorem New.rs {avs : List AV} {ρ' : List Sl} {vs : List V} {H1 H2 : Hp} {F1 : Fo} {f f2 : List Addr} {r : R} {v : V} (q : RsA G Ha E Fa σ H F avs ρ' vs H1 F1 f)
    (n : New G (Vo (orF E f) F1) H1 r v H2 f2) : Rs G Ha E Fa σ H F (.rv r) ρ' v H2 F1 f2 where
  st := (q.st.less (E' := E) fun a h => .inl h).ext n.keep n.new (n.ow.tr)
  fr := q.fr.trans ⟨fun a o h _ => n.keep a o h, fun a h => by
      cases z : H1 a with
      | none => exact absurd z h
      | some o => rw [n.keep a o z]; simp, fun a h => .inl h⟩
  ow := Ow.mv (W := orF (Vo (orF E f) F1) f2) ⟨fun _ _ h _ => h, fun a h => by
    rcases h with (h | h) | h
    · exact .inl (.inl (.inl (.inl h)))
    · exact .inl (.inr h)
    · exact .inl (.inl (.inr h))⟩ (fun _ _ => rfl) n.ow
  na := fun a h => by
    have h1 : H1 a = none := n.new a h
    cases z : Ha a with
    | none => rfl
    | some o => exact absurd h1 (q.st.fr.dom a (by rw [z]; simp))
  nw := fun a h => .inr (q.fr.none (n.new a h))
theorem primW.go {p : PwP} {Q : VK} {avs : List AV} {ρ' : List Sl} {vs : List V} {H1 : Hp} {F1 : Fo} {f : List Addr} {ds : List PyData} {Q0 : R → List Sl → Prop}
    (mp : MonoP p) (q : RsA G Ha E Fa σ H F avs ρ' vs H1 F1 f) (e : allD ρ' avs = some ds) (h : p ds fun r => Q0 r ρ')
    (k : ∀ r ρ' v H' F' f, Q0 r ρ' → Rs G Ha E Fa σ H F (.rv r) ρ' v H' F' f → Q v H') : rP G p vs H1 Q := by
  refine ⟨Vo (orF E f) F1, ds, fun a => q.st.vo, q.ow.vw (fun i s e => ⟨_, q.st.sl i s e⟩) e, mp _ _ _ (fun r h v H' f' n => ?_) h⟩
  exact k r ρ' v H' F1 f' h (n.rs q)
end

/-! ### expressions -/
section
variable {G : Wd} {T : Xd} {Wx : WX} {X : Cx}
theorem pa_seq_nil : PA X [] (tAs G T Wx (seqA [])) := by
  refine ⟨fun pos pins s σ H Q I h => ?_⟩
  obtain ⟨Ha, E, Fa, ρ, F, xq, S, xp, h⟩ := h
  exact (pa_nil (X := X)).run pos pins s σ H Q I (h _ _ _ _ (.nil S))
theorem pa_seq_cons {e : Expr} {es : List Expr} {g : WG} {gs : List WG} (mg : MonoG g) (ms : MonoA (seqA gs)) (h1 : PE X e (tG G T Wx g)) (h2 : PA X es (tAs G T Wx (seqA gs)))
    (hs : starEach (e :: es) X.env = (false, eval e X.env) :: starEach es X.env) : PA X (e :: es) (tAs G T Wx (seqA (g :: gs))) := by
  refine ⟨fun pos pins s σ H Q I h => ?_⟩
  obtain ⟨Ha, E, Fa, ρ, F, xq, S, xp, h⟩ := h
  refine (pa_cons h1 h2 hs).run pos pins s σ H Q I ?_
  refine tG.mk mg S xp h fun av ρ1 v H1 F1 f q r => ?_
  refine ⟨Ha, orF E f, Fa, ρ1, F1, xq, r.st, (xp.step r.fr).more fun a h => .inl h, ms _ _ _ _ (fun avs ρ2 q2 vs H2 F2 f2 r2 => ?_) q⟩
  exact q2 _ _ _ _ (.cons S r r2)
/-- a built-in over data, called by its name -/
theorem pe_prim {id : String} {x : Str} {p pos : Pos} {e : Expr} {es : List Expr} {pw : PwP} {wa : WA} (mp : MonoP pw) (ma : MonoA wa) (hc : CallR X (.builtin id) (rP G pw)) (hg : Gl X x) (hm : X.mg x = none) (hv : bootBuiltins x = some (.builtin id))
    (ha : PA X (e :: es) (tAs G T Wx wa)) (hn : x ≠ "__name__") (hdb : (x == ("__debug__" : Str)) = false) (he : starEach (e :: es) X.env = (false, eval e X.env) :: starEach es X.env) (hpl : ∀ pos, (backTo pos (starEach es X.env)).any (·.1) = false) :
    PE X (.Call (.Name x p) (e :: es) [] pos) (tE G T Wx (primW pw wa)) := by
  refine ⟨fun pins s σ H Q I h => ?_⟩
  obtain ⟨Ha, E, Fa, ρ, F, xq, S, xp, h⟩ := h
  refine (pe_callB hc hg hm hv ha hn hdb he (hpl pos)).run pins s σ H Q I ?_
  refine ⟨Ha, E, Fa, ρ, F, xq, S, xp, ma _ _ _ _ (fun avs ρ' q vs H' F' f r => ?_) h⟩
  obtain ⟨ds, e1, q⟩ := q
  exact primW.go mp r e1 q fun r ρ' v H' F' f q rs => q v H' F' f rs
end


end Pd

/-! Pd3: names, displays, tests, calls. -/
namespace Pd
open PySem L2

def updF (F : Fo) (i : Nat) (g : List Addr) : Fo := fun j => if j = i then g else F j
theorem updF_same {F : Fo} {i : Nat} {g : List Addr} : updF F i g i = g := if_pos rfl
theorem updF_ne {F : Fo} {i j : Nat} {g : List Addr} (h : j ≠ i) : updF F i g j = F j := if_neg h
theorem inF_upd {F : Fo} {i : Nat} {g : List Addr} {a : Addr} (h : InF (updF F i g) a) : a ∈ g ∨ ∃ j, j ≠ i ∧ a ∈ F j := by
  obtain ⟨j, h⟩ := h
  by_cases e : j = i
  · subst e; rw [updF_same] at h; exact .inl h
  · rw [updF_ne e] at h; exact .inr ⟨j, e, h⟩
section
variable {G : Wd} {T : Xd} {Wx : WX} {Ha : Hp} {E E' : Av} {Fa : Fo} {σ σ' : L2.St} {H : Hp} {ρ : List Sl} {F : Fo} {xq : XQ}
/-- a slot gets another thing -/
theorem St.putG {i : Nat} {s : Sl} {g : List Addr} (S : St G Ha E Fa σ H ρ F) (hi : i < ρ.length) (hl : σ'.length = σ.length) (hσ : ∀ j, j ≠ i → σ'[j]? = σ[j]?)
    (hV : ∀ a, Vo E' (updF F i g) a → Vo E F a) (h : SlOk G (Vo E' (updF F i g)) H g (σ'[i]?.join) s) (hd : ∀ a ∈ g, ∀ j, a ∈ F j → j = i)
    (hE : ∀ a, InF (updF F i g) a → ¬ E' a) (hvd : ∀ a, E' a → H a ≠ none) (na : ∀ a ∈ g, Ha a = none) (hb : s.isB = false) : St G Ha E' Fa σ' H (ρ.set i s) (updF F i g) where
  len := by rw [List.length_set, hl, S.len]
  sl := fun j t e => by
    by_cases q : j = i
    · subst q
      rw [List.getElem?_set_self hi] at e
      cases e
      rw [updF_same]
      exact h
    · rw [List.getElem?_set_ne (Ne.symm q)] at e
      rw [updF_ne q, hσ j q]
      exact (S.sl j t e).mv ⟨fun _ _ q _ => q, fun a q => .inl (hV a q)⟩ fun _ _ => rfl
  nof := fun j hj => by
    rw [List.length_set] at hj
    rw [updF_ne (by omega)]
    exact S.nof j hj
  dj := fun j k a h1 h2 => by
    by_cases q1 : j = i
    · by_cases q2 : k = i
      · rw [q1, q2]
      · subst q1
        rw [updF_same] at h1
        rw [updF_ne q2] at h2
        exact absurd (hd a h1 k h2) q2
    · by_cases q2 : k = i
      · subst q2
        rw [updF_same] at h2
        rw [updF_ne q1] at h1
        exact absurd (hd a h2 j h1) q1
      · rw [updF_ne q1] at h1
        rw [updF_ne q2] at h2
        exact S.dj j k a h1 h2
  ex := hE
  vd := hvd
  fr := ⟨S.fr.keep, S.fr.dom, fun a q => by
    rcases inF_upd q with q | ⟨j, _, q⟩
    · exact .inr (na a q)
    · exact S.fr.new a ⟨j, q⟩⟩
  bo := fun j t e b => by
    by_cases q : j = i
    · subst q
      rw [List.getElem?_set_self hi] at e
      cases e
      rw [hb] at b; cases b
    · rw [List.getElem?_set_ne (Ne.symm q)] at e
      rw [updF_ne q]
      exact S.bo j t e b
  ub := fun j t e b => by
    by_cases q : j = i
    · subst q
      rw [updF_same]
      exact na
    · rw [List.getElem?_set_ne (Ne.symm q)] at e
      rw [updF_ne q]
      exact S.ub j t e b
theorem join_some {i : Nat} {v : V} (h : σ[i]? = some (some v)) : σ[i]?.join = some v := by rw [h]; rfl
theorem of_join {i : Nat} {v : V} (h : σ[i]?.join = some v) : σ[i]? = some (some v) := by
  cases q : σ[i]? with
  | none => rw [q] at h; cases h
  | some o =>
    rw [q] at h
    change o = some v at h
    rw [h]
theorem lt_of_get {α : Type} {l : List α} {i : Nat} {x : α} (h : l[i]? = some x) : i < l.length := (List.getElem?_eq_some_iff.mp h).1
theorem St.orNil (S : St G Ha E Fa σ H ρ F) : St G Ha (orF E []) Fa σ H ρ F := S.less fun a h => h.elim id fun h => (by cases h)
/-- a slot's own thing becomes shared -/
theorem St.frz {i : Nat} {s s' : Sl} (S : St G Ha E Fa σ H ρ F) (e : ρ[i]? = some s) (hb : s'.isB = false)
    (h : SlOk G (Vo E (updF F i [])) H [] (σ[i]?.join) s') : St G Ha E Fa σ H (ρ.set i s') (updF F i []) := by
  refine S.putG (lt_of_get e) rfl (fun _ _ => rfl) (fun a q => ?_) h (fun a q => (by cases q)) (fun a q => ?_) S.vd (fun a q => (by cases q)) hb
  · rcases q with q | q
    · exact .inl q
    · rcases inF_upd q with q | ⟨j, _, q⟩
      · cases q
      · exact .inr ⟨j, q⟩
  · rcases inF_upd q with q | ⟨j, _, q⟩
    · cases q
    · exact S.ex a ⟨j, q⟩
/-- a slot's own thing is handed on -/
theorem St.mov {i : Nat} {s : Sl} (S : St G Ha E Fa σ H ρ F) (e : ρ[i]? = some s) : St G Ha (orF E (F i)) Fa σ H (ρ.set i .no) (updF F i []) := by
  refine S.putG (lt_of_get e) rfl (fun _ _ => rfl) (fun a q => ?_) rfl (fun a q => (by cases q)) (fun a q => ?_) (fun a q => ?_) (fun a q => (by cases q)) rfl
  · rcases q with (q | q) | q
    · exact .inl q
    · exact .inr ⟨i, q⟩
    · rcases inF_upd q with q | ⟨j, _, q⟩
      · cases q
      · exact .inr ⟨j, q⟩
  · rcases inF_upd q with q | ⟨j, nj, q⟩
    · cases q
    · rintro (z | z)
      · exact S.ex a ⟨j, q⟩ z
      · exact nj (S.dj j i a q z)
  · rcases q with q | q
    · exact S.vd a q
    · exact S.fd ⟨i, q⟩
/-- a value is stored -/
theorem St.asg {i : Nat} {v : V} {r : R} {f : List Addr} (S : St G Ha (orF E f) Fa σ H ρ F) (hi : i < ρ.length) (o : Ow G (Vo (orF E f) F) H f v r) (na : ∀ a ∈ f, Ha a = none) (nE : ∀ a ∈ f, ¬ E a) :
    St G Ha E Fa (σ.set i (some v)) H (ρ.set i r.sl) (updF F i f) := by
  have hiσ : i < σ.length := by rw [← S.len]; exact hi
  have sub : ∀ a, Vo E (updF F i f) a → Vo (orF E f) F a := fun a q => by
    rcases q with q | q
    · exact .inl (.inl q)
    · rcases inF_upd q with q | ⟨j, _, q⟩
      · exact .inl (.inr q)
      · exact .inr ⟨j, q⟩
  refine S.putG hi (by rw [List.length_set]) (fun j q => List.getElem?_set_ne (Ne.symm q)) sub ?_ (fun a q j z => absurd (Or.inr q) (S.ex a ⟨j, z⟩)) (fun a q => ?_) (fun a q => S.vd a (.inl q)) na (by cases r <;> rfl)
  · rw [List.getElem?_set_self hiσ]
    have o' := o.mv (W' := Vo E (updF F i f)) (H' := H) ⟨fun _ _ q _ => q, fun a q => .inl (sub a q)⟩ fun _ _ => rfl
    cases r <;> exact ⟨v, rfl, o'⟩
  · rcases inF_upd q with q | ⟨j, _, q⟩
    · exact nE a q
    · exact fun z => S.ex a ⟨j, q⟩ (.inl z)
/-- what a slot owns is changed in place -/
theorem St.chg {i : Nat} {s s' : Sl} {a : Addr} {o : HO} (S : St G Ha E Fa σ H ρ F) (e : ρ[i]? = some s) (ha : F i = [a]) (hb : s'.isB = s.isB) (h : SlOk G (Vo E F) (upd H a o) [a] (σ[i]?.join) s') :
    St G Ha E Fa σ (upd H a o) (ρ.set i s') F where
  len := by rw [List.length_set, S.len]
  sl := fun j t q => by
    by_cases z : j = i
    · subst z
      rw [List.getElem?_set_self (lt_of_get e)] at q
      cases q
      rw [ha]
      exact h
    · rw [List.getElem?_set_ne (Ne.symm z)] at q
      refine (S.sl j t q).mv ⟨fun b u w n => ?_, fun b w => .inl w⟩ fun b w => ?_
      · rw [upd_ne]
        · exact w
        · rintro rfl
          exact n (.inr ⟨i, by rw [ha]; simp⟩)
      · rw [upd_ne]
        rintro rfl
        exact z (S.dj j i b w (by rw [ha]; simp))
  nof := fun j hj => S.nof j (by rw [List.length_set] at hj; exact hj)
  dj := S.dj
  ex := S.ex
  vd := fun b q => by
    by_cases z : b = a
    · subst z; rw [upd_same]; simp
    · rw [upd_ne z]; exact S.vd b q
  fr := S.fr.trans ⟨fun b u w n => by
      rw [upd_ne]
      · exact w
      · rintro rfl
        exact n ⟨i, by rw [ha]; simp⟩, fun b q => by
      by_cases z : b = a
      · subst z; rw [upd_same]; simp
      · rw [upd_ne z]; exact q, fun b q => .inl q⟩
  bo := fun j t q b => by
    by_cases z : j = i
    · subst z
      rw [List.getElem?_set_self (lt_of_get e)] at q
      cases q
      exact S.bo j s e (by rw [← hb]; exact b)
    · rw [List.getElem?_set_ne (Ne.symm z)] at q
      exact S.bo j t q b
  ub := fun j t q b => by
    by_cases z : j = i
    · subst z
      rw [List.getElem?_set_self (lt_of_get e)] at q
      cases q
      exact S.ub j s e (by rw [← hb]; exact b)
    · rw [List.getElem?_set_ne (Ne.symm z)] at q
      exact S.ub j t q b
end

/-! ### names and constants -/
def varE (i : Nat) : WE := fun ρ xq Q => match ρ[i]? with
  | some (.sh d) => Q (.sh d) ρ
  | some (.scr ns) => Q (.scr ns) ρ
  | some (.ol false l) => Q (.sh (.list l)) (ρ.set i (.sh (.list l)))
  | some (.od false _ l) => Q (.sh (.dict l)) (ρ.set i (.sh (.dict l)))
  | _ => False
def movE (i : Nat) : WE := fun ρ xq Q => match ρ[i]? with
  | some (.sh d) => Q (.sh d) ρ
  | some (.ol false l) => Q (.ol l) (ρ.set i .no)
  | some (.od false t l) => Q (.od t l) (ρ.set i .no)
  | some (.pot false) => Q .pot (ρ.set i .no)
  | _ => False
def vwG (i : Nat) : WG := fun ρ xq Q => match ρ[i]? with
  | some .no => False
  | some _ => Q (.vw i) ρ
  | none => False
def conE (d : PyData) : WE := fun ρ xq Q => Q (.sh d) ρ
theorem varE_mono {i : Nat} : MonoE (varE i) := by
  intro ρ xq Q Q' h q
  unfold varE at q ⊢
  split at q <;> first | exact h _ _ q | exact q
theorem movE_mono {i : Nat} : MonoE (movE i) := by
  intro ρ xq Q Q' h q
  unfold movE at q ⊢
  split at q <;> first | exact h _ _ q | exact q
theorem vwG_mono {i : Nat} : MonoG (vwG i) := by
  intro ρ xq Q Q' h q
  unfold vwG at q ⊢
  split at q <;> first | exact h _ _ q | exact q
theorem conE_mono {d : PyData} : MonoE (conE d) := fun ρ xq Q Q' h q => h _ _ q
section
variable {G : Wd} {T : Xd} {Wx : WX} {X : Cx}
theorem St.slot {Ha : Hp} {E : Av} {Fa : Fo} {σ : L2.St} {H : Hp} {ρ : List Sl} {F : Fo} {i : Nat} {s : Sl} {r : R} (S : St G Ha E Fa σ H ρ F) (e : ρ[i]? = some s) (er : s.r = some r) : ∃ v, σ[i]? = some (some v) ∧ Ow G (Vo E F) H (F i) v r := by
  have h := S.sl i s e
  unfold SlOk at h
  rw [er] at h
  obtain ⟨v, h1, h2⟩ := h
  exact ⟨v, of_join h1, h2⟩
theorem Rs.here {Ha : Hp} {E : Av} {Fa : Fo} {σ : L2.St} {H : Hp} {ρ : List Sl} {F : Fo} {d : PyData} {v : V} (S : St G Ha E Fa σ H ρ F) (h : Has G.K (Vo E F) H d v) : Rs G Ha E Fa σ H F (.rv (.sh d)) ρ v H F [] where
  st := S.orNil
  fr := .refl _ _
  ow := ⟨rfl, Has.mv ⟨fun _ _ q _ => q, fun a q => by
    rcases q with (q | q) | q
    · exact .inl (.inl q)
    · cases q
    · exact .inl (.inr q)⟩ _ _ h⟩
  na := fun a q => (by cases q)
  nw := fun a q => (by cases q)
theorem pe_con {e : Expr} {v : V} {d : PyData} (h : PE X e (tC v)) (hd : ∀ (K : PySem.W.Frag) (W : Av) (H : Hp), Has K W H d v) : PE X e (tE G T Wx (conE d)) := by
  refine ⟨fun pins s σ H Q I h' => ?_⟩
  obtain ⟨Ha, E, Fa, ρ, F, xq, S, xp, q⟩ := h'
  exact h.run pins s σ H Q I (q _ _ _ _ (.here S (hd _ _ _)))
theorem pe_vw {e : Expr} {i : Nat} (h : PE X e (tVar i)) : PE X e (tG G T Wx (vwG i)) := by
  refine ⟨fun pins s σ H Q I h' => ?_⟩
  obtain ⟨Ha, E, Fa, ρ, F, xq, S, xp, q⟩ := h'
  refine h.run pins s σ H Q I ?_
  unfold vwG at q
  have go : ∀ (s : Sl) (r : R), ρ[i]? = some s → s.r = some r → (∀ v H' F' f, Rs G Ha E Fa σ H F (.vw i) ρ v H' F' f → Q v H') → tVar i σ H Q := fun s r e1 e2 q => by
    obtain ⟨v, h1, h2⟩ := S.slot e1 e2
    exact ⟨v, h1, q v H F [] ⟨S.orNil, .refl _ _, ⟨rfl, h1⟩, fun a q => (by cases q), fun a q => (by cases q)⟩⟩
  split at q
  · exact q.elim
  · rename_i s hn e
    cases s with
    | no => exact absurd rfl hn
    | sh d => exact go _ _ e rfl q
    | ol b l => exact go _ _ e rfl q
    | od b t l => exact go _ _ e rfl q
    | pot b => exact go _ _ e rfl q
    | scr ns => exact go _ _ e rfl q
  · exact q.elim
theorem pe_varE {e : Expr} {i : Nat} (h : PE X e (tVar i)) : PE X e (tE G T Wx (varE i)) := by
  refine ⟨fun pins s σ H Q I h' => ?_⟩
  obtain ⟨Ha, E, Fa, ρ, F, xq, S, xp, q⟩ := h'
  refine h.run pins s σ H Q I ?_
  unfold ofE varE at q
  have low : ∀ {a : Addr}, Vo (orF E []) (updF F i []) a → Vo E F a ∧ a ∉ F i ∨ a ∈ F i ∧ E a := fun {a} z => by
    rcases z with (z | z) | z
    · by_cases w : a ∈ F i
      · exact .inr ⟨w, z⟩
      · exact .inl ⟨.inl z, w⟩
    · cases z
    · rcases inF_upd z with z | ⟨j, nj, z⟩
      · cases z
      · exact .inl ⟨.inr ⟨j, z⟩, fun w => nj (S.dj j i a z w)⟩
  have fin : ∀ (s : Sl) (d : PyData) (v : V), ρ[i]? = some s → σ[i]? = some (some v) → (Has G.K (Vo (orF E []) (updF F i [])) H d v) →
      (∀ v H' F' f, Rs G Ha E Fa σ H F (.rv (.sh d)) (ρ.set i (.sh d)) v H' F' f → Q v H') → tVar i σ H Q := fun s d v e1 h1 hh q => by
    have hh' : Has G.K (Vo E (updF F i [])) H d v := Has.mv ⟨fun _ _ q _ => q, fun a z => .inl (z.imp .inl id)⟩ _ _ hh
    refine ⟨v, h1, q v H (updF F i []) [] ⟨(S.frz (s' := .sh d) e1 rfl ⟨v, by rw [h1]; rfl, rfl, hh'⟩).orNil, ⟨fun _ _ q _ => q, fun _ q => q, fun a z => ?_⟩, ⟨rfl, hh⟩, fun a q => (by cases q), fun a q => (by cases q)⟩⟩
    rcases inF_upd z with z | ⟨j, _, z⟩
    · cases z
    · exact .inl ⟨j, z⟩
  split at q
  · rename_i d e
    obtain ⟨v, h1, h2⟩ := S.slot e rfl
    exact ⟨v, h1, q _ _ _ _ (.here S h2.2)⟩
  · rename_i ns e
    obtain ⟨v, h1, h2⟩ := S.slot e rfl
    exact ⟨v, h1, q v H F [] ⟨S.orNil, .refl _ _, ⟨rfl, h2.2.mv ⟨fun _ _ q _ => q, fun a q => .inl (q.imp (fun q => q.elim id fun q => (by cases q)) id)⟩⟩, fun a q => (by cases q), fun a q => (by cases q)⟩⟩
  · rename_i l e
    obtain ⟨v, h1, z, a, xs, h2, h3, h4, h5⟩ := S.slot e rfl
    refine fin _ (.list l) v e h1 ?_ q
    unfold Has
    refine ⟨z, a, xs, h2, ⟨h4, fun w => ?_⟩, HasL.mv ⟨fun _ _ q _ => q, fun b w => ?_⟩ _ _ h5⟩
    · rcases low w with w | w
      · exact w.2 (by rw [h3]; simp)
      · exact S.ex a ⟨i, w.1⟩ w.2
    · rcases low w with w | w
      · exact .inl w.1
      · exact .inl (.inl w.2)
  · rename_i t l e
    obtain ⟨v, h1, z, a, xs, h2, h3, h4, h5⟩ := S.slot e rfl
    refine fin _ (.dict l) v e h1 ?_ q
    unfold Has
    refine ⟨z, a, xs, h2, h4.at fun w => ?_, HasK.mv ⟨fun _ _ q _ => q, fun b w => ?_⟩ _ _ h5⟩
    · rcases low w with w | w
      · exact w.2 (by rw [h3]; simp)
      · exact S.ex a ⟨i, w.1⟩ w.2
    · rcases low w with w | w
      · exact .inl w.1
      · exact .inl (.inl w.2)
  · exact q.elim
theorem pe_movE {e : Expr} {i : Nat} (h : PE X e (tVar i)) : PE X e (tE G T Wx (movE i)) := by
  refine ⟨fun pins s σ H Q I h' => ?_⟩
  obtain ⟨Ha, E, Fa, ρ, F, xq, S, xp, q⟩ := h'
  refine h.run pins s σ H Q I ?_
  unfold ofE movE at q
  have fin : ∀ (s : Sl) (r : R), ρ[i]? = some s → s.r = some r → s.isB = false → (∀ v H' F' f, Rs G Ha E Fa σ H F (.rv r) (ρ.set i .no) v H' F' f → Q v H') → tVar i σ H Q := fun s r e1 er hb q => by
    obtain ⟨v, h1, h2⟩ := S.slot e1 er
    refine ⟨v, h1, q v H (updF F i []) (F i) ⟨S.mov e1, ⟨fun _ _ q _ => q, fun _ q => q, fun a z => ?_⟩, Ow.mv ⟨fun _ _ q _ => q, fun a z => ?_⟩ (fun _ _ => rfl) h2, S.ub i s e1 hb, fun a z => .inl ⟨i, z⟩⟩⟩
    · rcases inF_upd z with z | ⟨j, _, z⟩
      · cases z
      · exact .inl ⟨j, z⟩
    · left
      rcases z with (z | z) | z
      · exact .inl z
      · exact .inr ⟨i, z⟩
      · rcases inF_upd z with z | ⟨j, _, z⟩
        · cases z
        · exact .inr ⟨j, z⟩
  split at q
  · rename_i d e
    obtain ⟨v, h1, h2⟩ := S.slot e rfl
    exact ⟨v, h1, q _ _ _ _ (.here S h2.2)⟩
  · rename_i l e
    exact fin _ _ e rfl rfl q
  · rename_i t l e
    exact fin _ _ e rfl rfl q
  · rename_i e
    exact fin _ _ e rfl rfl q
  · exact q.elim
end
end Pd

/-! Pd4: displays, tests, choices, calls of one's own defs. -/
namespace Pd
open PySem L2

/-! ### displays -/
def rvD : AV → Option PyData
  | .vw _ => none
  | .rv r => r.d
def allR : List AV → Option (List PyData)
  | [] => some []
  | a :: as => (rvD a).bind fun d => (allR as).map fun ds => d :: ds
def tupE (wa : WA) : WE := fun ρ xq Q => wa ρ xq fun avs ρ' => ∃ ds, allR avs = some ds ∧ leB ds.length sizeLine ∧ Q (.sh (.tuple ds)) ρ'
def lstE (wa : WA) : WE := fun ρ xq Q => wa ρ xq fun avs ρ' => ∃ ds, allR avs = some ds ∧ leB ds.length sizeLine ∧ Q (.ol ds) ρ'
theorem tupE_mono {wa : WA} (m : MonoA wa) : MonoE (tupE wa) := fun ρ xq Q Q' h q => m ρ xq _ _ (fun avs ρ' ⟨ds, e, z, q⟩ => ⟨ds, e, z, h _ _ q⟩) q
theorem lstE_mono {wa : WA} (m : MonoA wa) : MonoE (lstE wa) := fun ρ xq Q Q' h q => m ρ xq _ _ (fun avs ρ' ⟨ds, e, z, q⟩ => ⟨ds, e, z, h _ _ q⟩) q
section
variable {G : Wd} {T : Xd} {Wx : WX} {X : Cx} {Ha : Hp} {E : Av} {Fa : Fo} {σ : L2.St} {H : Hp} {ρ : List Sl} {F : Fo} {xq : XQ}
theorem rv_has {W W' : Av} {f : List Addr} {v : V} {av : AV} {d : PyData} (h : AvOk G W H σ f v av) (e : rvD av = some d) (n : ∀ a ∈ f, ¬ W' a) (s : ∀ a, W' a → W a) : Has G.K W' H d v := by
  cases av with
  | vw i => cases e
  | rv r =>
    have m : Mv W H W' H := ⟨fun _ _ q _ => q, fun a q => .inl (s a q)⟩
    cases r with
    | sh d' => cases e; exact Has.mv m _ _ h.2
    | ol l =>
      cases e
      obtain ⟨z, a, xs, h1, h2, h3, h4⟩ := h
      unfold Has
      exact ⟨z, a, xs, h1, ⟨h3, n a (by rw [h2]; simp)⟩, HasL.mv m _ _ h4⟩
    | od t l =>
      cases e
      obtain ⟨z, a, xs, h1, h2, h3, h4⟩ := h
      unfold Has
      exact ⟨z, a, xs, h1, h3.at (n a (by rw [h2]; simp)), HasK.mv m _ _ h4⟩
    | pot => cases e
    | scr ns => cases e
theorem rvs_has {W W' : Av} {f : List Addr} {vs : List V} {avs : List AV} (h : AvsOk G W H σ f vs avs) : ∀ {ds : List PyData}, allR avs = some ds → (∀ a ∈ f, ¬ W' a) → (∀ a, W' a → W a) → HasL G.K W' H ds vs := by
  induction h with
  | nil => intro ds e n s; cases e; exact .nil
  | @cons f fs v vs av avs p r ih =>
    intro ds e n s
    unfold allR at e
    cases q : rvD av with
    | none => rw [q] at e; cases e
    | some d =>
      rw [q] at e
      change (allR avs).map (fun ds => d :: ds) = some ds at e
      cases q2 : allR avs with
      | none => rw [q2] at e; cases e
      | some ds' =>
        rw [q2] at e
        cases e
        exact .cons (rv_has p q (fun a ha => n a (List.mem_append_left _ ha)) s) (ih q2 (fun a ha => n a (List.mem_append_right _ ha)) s)
theorem AvsOk.len {W : Av} {f : List Addr} {vs : List V} {avs : List AV} (h : AvsOk G W H σ f vs avs) : vs.length = avs.length := by
  induction h with
  | nil => rfl
  | cons _ _ ih => simp [ih]
theorem HasL.len' {K : PySem.W.Frag} {W : Av} {l : List PyData} {xs : List V} (h : HasL K W H l xs) : l.length = xs.length := h.length.symm
theorem RsA.off {avs : List AV} {ρ' : List Sl} {vs : List V} {H' : Hp} {F' : Fo} {f : List Addr} (S : St G Ha E Fa σ H ρ F) (r : RsA G Ha E Fa σ H F avs ρ' vs H' F' f) : ∀ a ∈ f, ¬ Vo E F' a := fun a ha q => by
  rcases q with q | q
  · rcases r.nw a ha with z | z
    · exact S.ex a z q
    · exact S.vd a q z
  · exact r.st.ex a q (.inr ha)
theorem pe_tupE {es : List Expr} {k : Nat} {pos : Pos} {wa : WA} (ma : MonoA wa) (h : PA X es (tAs G T Wx wa)) : PE X (.Tuple es k pos) (tE G T Wx (tupE wa)) := by
  refine ⟨fun pins s σ H Q I h' => ?_⟩
  obtain ⟨Ha, E, Fa, ρ, F, xq, S, xp, q⟩ := h'
  refine (pe_tup h).run pins s σ H Q I ?_
  refine ⟨Ha, E, Fa, ρ, F, xq, S, xp, ma _ _ _ _ (fun avs ρ' q vs H' F' f r => ?_) q⟩
  obtain ⟨ds, e, z, q⟩ := q
  have hl := rvs_has (W' := Vo E F') r.ow e (r.off S) fun a h => h.imp .inl id
  have z := leB.le z
  refine ⟨by rw [hl.length]; exact z, fun p hp => ?_⟩
  have kp : ∀ a o, H' a = some o → upd H' p (.tup vs) a = some o := fun a o h => by rw [upd_ne (ne_of_none h hp)]; exact h
  have S' := (r.st.less (E' := E) fun a h => .inl h).ext (f := []) (H' := upd H' p (.tup vs)) kp (fun a h => (by cases h)) (fun a h => (by cases h))
  refine q (.ref p) _ F' [] ⟨S', r.fr.trans ⟨fun a o h _ => kp a o h, fun a h => ?_, fun a h => .inl h⟩, ⟨rfl, ?_⟩, fun a h => (by cases h), fun a h => (by cases h)⟩
  · cases w : H' a with
    | none => exact absurd w h
    | some o => rw [kp a o w]; simp
  · unfold Has
    refine ⟨z, p, vs, rfl, ⟨upd_same, fun w => ?_⟩, HasL.mv ⟨fun a o h _ => kp a o h, fun a w => ?_⟩ _ _ hl⟩
    · rcases w with (w | w) | w
      · exact absurd hp (r.st.vd p (.inl w))
      · cases w
      · exact absurd hp (r.st.fd w)
    · rcases w with (w | w) | w
      · exact .inl (.inl w)
      · cases w
      · exact .inl (.inr w)
theorem pe_lstE {es : List Expr} {pos : Pos} {wa : WA} (ma : MonoA wa) (h : PA X es (tAs G T Wx wa)) : PE X (.List es pos) (tE G T Wx (lstE wa)) := by
  refine ⟨fun pins s σ H Q I h' => ?_⟩
  obtain ⟨Ha, E, Fa, ρ, F, xq, S, xp, q⟩ := h'
  refine (pe_lst h).run pins s σ H Q I ?_
  refine ⟨Ha, E, Fa, ρ, F, xq, S, xp, ma _ _ _ _ (fun avs ρ' q vs H' F' f r => ?_) q⟩
  obtain ⟨ds, e, z, q⟩ := q
  have hl := rvs_has (W' := Vo E F') r.ow e (r.off S) fun a h => h.imp .inl id
  have z := leB.le z
  refine ⟨by rw [hl.length]; exact z, fun p hp => ?_⟩
  have kp : ∀ a o, H' a = some o → upd H' p (.lst vs) a = some o := fun a o h => by rw [upd_ne (ne_of_none h hp)]; exact h
  have S' := (r.st.less (E' := E) fun a h => .inl h).ext (f := [p]) (H' := upd H' p (.lst vs)) kp (fun a h => by rw [List.mem_singleton.mp h]; exact hp) (fun a h => by rw [List.mem_singleton.mp h, upd_same]; simp)
  refine q (.ref p) _ F' [p] ⟨S', r.fr.trans ⟨fun a o h _ => kp a o h, fun a h => ?_, fun a h => .inl h⟩, ⟨z, p, vs, rfl, rfl, upd_same, ?_⟩, fun a h => ?_, fun a h => ?_⟩
  · cases w : H' a with
    | none => exact absurd w h
    | some o => rw [kp a o w]; simp
  · refine HasL.mv ⟨fun a o h _ => kp a o h, fun a w => ?_⟩ _ _ hl
    rcases w with (w | w) | w
    · exact .inl (.inl w)
    · rw [List.mem_singleton.mp w]; exact .inr hp
    · exact .inl (.inr w)
  · rw [List.mem_singleton.mp h]
    cases w : Ha p with
    | none => rfl
    | some o => exact absurd hp (r.st.fr.dom p (by rw [w]; simp))
  · rw [List.mem_singleton.mp h]
    exact .inr (r.fr.none hp)

/-! ### tests -/
def valT (w : WE) : WT := fun ρ xq Q => w ρ xq fun r ρ' => ∃ b, r = .sh (.bool b) ∧ Q b ρ'
def notT (w : WT) : WT := fun ρ xq Q => w ρ xq fun b ρ' => Q (!b) ρ'
def andT (w w2 : WT) : WT := fun ρ xq Q => w ρ xq fun b ρ' => if b = true then w2 ρ' xq Q else Q false ρ'
def orT (w w2 : WT) : WT := fun ρ xq Q => w ρ xq fun b ρ' => if b = true then Q true ρ' else w2 ρ' xq Q
def ifE (c : WT) (a b : WE) : WE := fun ρ xq Q => c ρ xq fun k ρ' => if k = true then a ρ' xq Q else b ρ' xq Q
def andE (w w2 : WE) : WE := fun ρ xq Q => w ρ xq fun r ρ' => ∃ b, r = .sh (.bool b) ∧ if b = true then w2 ρ' xq Q else Q (.sh (.bool false)) ρ'
def orE (w w2 : WE) : WE := fun ρ xq Q => w ρ xq fun r ρ' => ∃ b, r = .sh (.bool b) ∧ if b = true then Q (.sh (.bool true)) ρ' else w2 ρ' xq Q
def notE (w : WE) : WE := fun ρ xq Q => w ρ xq fun r ρ' => ∃ b, r = .sh (.bool b) ∧ Q (.sh (.bool (!b))) ρ'
theorem valT_mono {w : WE} (m : MonoE w) : MonoT (valT w) := fun ρ xq Q Q' h q => m ρ xq _ _ (fun r ρ' ⟨b, e, q⟩ => ⟨b, e, h _ _ q⟩) q
theorem notT_mono {w : WT} (m : MonoT w) : MonoT (notT w) := fun ρ xq Q Q' h q => m ρ xq _ _ (fun r ρ' q => h _ _ q) q
theorem andT_mono {w w2 : WT} (m : MonoT w) (m2 : MonoT w2) : MonoT (andT w w2) := fun ρ xq Q Q' h q => m ρ xq _ _ (fun b ρ' q => by
  cases b with
  | true => exact m2 _ _ _ _ h q
  | false => exact h _ _ q) q
theorem orT_mono {w w2 : WT} (m : MonoT w) (m2 : MonoT w2) : MonoT (orT w w2) := fun ρ xq Q Q' h q => m ρ xq _ _ (fun b ρ' q => by
  cases b with
  | false => exact m2 _ _ _ _ h q
  | true => exact h _ _ q) q
theorem ifE_mono {c : WT} {a b : WE} (m : MonoT c) (ma : MonoE a) (mb : MonoE b) : MonoE (ifE c a b) := fun ρ xq Q Q' h q => m ρ xq _ _ (fun k ρ' q => by
  cases k with
  | true => exact ma _ _ _ _ h q
  | false => exact mb _ _ _ _ h q) q
theorem andE_mono {w w2 : WE} (m : MonoE w) (m2 : MonoE w2) : MonoE (andE w w2) := fun ρ xq Q Q' h q => m ρ xq _ _ (fun r ρ' ⟨b, e, q⟩ => ⟨b, e, by
  cases b with
  | true => exact m2 _ _ _ _ h q
  | false => exact h _ _ q⟩) q
theorem orE_mono {w w2 : WE} (m : MonoE w) (m2 : MonoE w2) : MonoE (orE w w2) := fun ρ xq Q Q' h q => m ρ xq _ _ (fun r ρ' ⟨b, e, q⟩ => ⟨b, e, by
  cases b with
  | false => exact m2 _ _ _ _ h q
  | true => exact h _ _ q⟩) q
theorem notE_mono {w : WE} (m : MonoE w) : MonoE (notE w) := fun ρ xq Q Q' h q => m ρ xq _ _ (fun r ρ' ⟨b, e, q⟩ => ⟨b, e, h _ _ q⟩) q
/-- behind a value that owns nothing -/
theorem Rs.bare {d : PyData} {ρ' : List Sl} {v : V} {H' : Hp} {F' : Fo} {f : List Addr} (r : Rs G Ha E Fa σ H F (.rv (.sh d)) ρ' v H' F' f) : St G Ha E Fa σ H' ρ' F' ∧ Fr H F H' F' ∧ Has G.K (Vo E F') H' d v :=
  ⟨r.st.less fun a h => .inl h, r.fr, Has.mv ⟨fun _ _ q _ => q, fun a q => .inl (q.imp .inl id)⟩ _ _ r.ow.2⟩
theorem Rs.bool {b : Bool} {ρ' : List Sl} {v : V} {H' : Hp} {F' : Fo} {f : List Addr} (r : Rs G Ha E Fa σ H F (.rv (.sh (.bool b))) ρ' v H' F' f) : v = .bl b := by
  have h := r.bare.2.2
  unfold Has at h
  exact h
theorem pt_valT {e : Expr} {w : WE} (m : MonoE w) (h : PE X e (tE G T Wx w)) (ht : ∀ t : TE, PE X e t → PT X e (tB t)) : PT X e (tTT G T Wx (valT w)) := by
  refine ⟨fun pins s σ H Q I h' => ?_⟩
  obtain ⟨Ha, E, Fa, ρ, F, xq, S, xp, q⟩ := h'
  refine (ht _ h).run pins s σ H Q I ?_
  refine tE.mk m S xp q fun r ρ' v H' F' f q0 rs => ?_
  obtain ⟨b, rfl, q0⟩ := q0
  exact ⟨b, rs.bool, q0 _ _ rs.bare.1 rs.bare.2.1⟩
theorem pt_notT {e : Expr} {w : WT} {pos : Pos} (m : MonoT w) (h : PT X e (tTT G T Wx w)) : PT X (.UnaryOp .Not e pos) (tTT G T Wx (notT w)) := by
  refine ⟨fun pins s σ H Q I h' => ?_⟩
  obtain ⟨Ha, E, Fa, ρ, F, xq, S, xp, q⟩ := h'
  refine (pt_not h).run pins s σ H Q I ?_
  exact tTT.mk m S xp q fun b ρ' H' F' q0 s f => q0 _ _ s f
theorem tTT.sub {w2 : WT} {Q : Bool → Hp → Prop} {ρ' : List Sl} {H' : Hp} {F' : Fo} (m : MonoT w2) (s : St G Ha E Fa σ H' ρ' F') (f : Fr H F H' F') (xp : XP G T Ha E Fa Wx H F xq)
    (h : w2 ρ' xq fun b ρ2 => ∀ H2 F2, St G Ha E Fa σ H2 ρ2 F2 → Fr H F H2 F2 → Q b H2) : tTT G T Wx w2 σ H' Q :=
  ⟨Ha, E, Fa, ρ', F', xq, s, xp.step f, m _ _ _ _ (fun b ρ2 q H2 F2 s2 f2 => q H2 F2 s2 (f.trans f2)) h⟩
theorem tE.sub {w2 : WE} {Q : VK} {ρ' : List Sl} {H' : Hp} {F' : Fo} (m : MonoE w2) (s : St G Ha E Fa σ H' ρ' F') (f : Fr H F H' F') (xp : XP G T Ha E Fa Wx H F xq)
    (h : w2 ρ' xq fun r ρ2 => ∀ v H2 F2 g, Rs G Ha E Fa σ H F (.rv r) ρ2 v H2 F2 g → Q v H2) : tE G T Wx w2 σ H' Q :=
  ⟨Ha, E, Fa, ρ', F', xq, s, xp.step f, m _ _ _ _ (fun r ρ2 q v H2 F2 g rs => q v H2 F2 g ⟨rs.st, f.trans rs.fr, rs.ow, rs.na, fun a h => by
    rcases rs.nw a h with h | h
    · exact f.new a h
    · exact .inr (f.none h)⟩) h⟩
theorem pw_and1T {a : Expr} {pos : Pos} {w : WT} (h : PT X a (tTT G T Wx w)) : PW X (.BoolOp .And [a] pos) (tTT G T Wx w) := pw_and1 h
theorem pw_or1T {a : Expr} {pos : Pos} {w : WT} (h : PT X a (tTT G T Wx w)) : PW X (.BoolOp .Or [a] pos) (tTT G T Wx w) := pw_or1 h
theorem pw_andT {a b : Expr} {rest : List Expr} {pos : Pos} {w w2 : WT} (m : MonoT w) (m2 : MonoT w2) (h : PT X a (tTT G T Wx w)) (h2 : PW X (.BoolOp .And (b :: rest) pos) (tTT G T Wx w2)) : PW X (.BoolOp .And (a :: b :: rest) pos) (tTT G T Wx (andT w w2)) := by
  refine ⟨fun wh pins s σ H Q I h' => ?_⟩
  obtain ⟨Ha, E, Fa, ρ, F, xq, S, xp, q⟩ := h'
  refine (L2.pw_and h h2).run wh pins s σ H Q I ?_
  refine tTT.mk m S xp q fun b ρ' H' F' q0 s f => ?_
  cases b with
  | true => exact tTT.sub m2 s f xp q0
  | false => exact q0 _ _ s f
theorem pw_orT {a b : Expr} {rest : List Expr} {pos : Pos} {w w2 : WT} (m : MonoT w) (m2 : MonoT w2) (h : PT X a (tTT G T Wx w)) (h2 : PW X (.BoolOp .Or (b :: rest) pos) (tTT G T Wx w2)) : PW X (.BoolOp .Or (a :: b :: rest) pos) (tTT G T Wx (orT w w2)) := by
  refine ⟨fun wh pins s σ H Q I h' => ?_⟩
  obtain ⟨Ha, E, Fa, ρ, F, xq, S, xp, q⟩ := h'
  refine (L2.pw_or h h2).run wh pins s σ H Q I ?_
  refine tTT.mk m S xp q fun b ρ' H' F' q0 s f => ?_
  cases b with
  | false => exact tTT.sub m2 s f xp q0
  | true => exact q0 _ _ s f
theorem pe_andE {a b : Expr} {rest : List Expr} {pos : Pos} {w w2 : WE} (m : MonoE w) (m2 : MonoE w2) (h : PE X a (tE G T Wx w)) (h2 : PE X (.BoolOp .And (b :: rest) pos) (tE G T Wx w2)) : PE X (.BoolOp .And (a :: b :: rest) pos) (tE G T Wx (andE w w2)) := by
  refine ⟨fun pins s σ H Q I h' => ?_⟩
  obtain ⟨Ha, E, Fa, ρ, F, xq, S, xp, q⟩ := h'
  refine (L2.pe_and h h2).run pins s σ H Q I ?_
  refine tE.mk m S xp q fun r ρ' v H' F' f q0 rs => ?_
  obtain ⟨k, rfl, q0⟩ := q0
  refine ⟨k, rs.bool, ?_⟩
  cases k with
  | true => exact tE.sub m2 rs.bare.1 rs.bare.2.1 xp q0
  | false => exact q0 (.bl false) H' F' f (rs.bool ▸ rs)
theorem pe_orE {a b : Expr} {rest : List Expr} {pos : Pos} {w w2 : WE} (m : MonoE w) (m2 : MonoE w2) (h : PE X a (tE G T Wx w)) (h2 : PE X (.BoolOp .Or (b :: rest) pos) (tE G T Wx w2)) : PE X (.BoolOp .Or (a :: b :: rest) pos) (tE G T Wx (orE w w2)) := by
  refine ⟨fun pins s σ H Q I h' => ?_⟩
  obtain ⟨Ha, E, Fa, ρ, F, xq, S, xp, q⟩ := h'
  refine (L2.pe_or h h2).run pins s σ H Q I ?_
  refine tE.mk m S xp q fun r ρ' v H' F' f q0 rs => ?_
  obtain ⟨k, rfl, q0⟩ := q0
  refine ⟨k, rs.bool, ?_⟩
  cases k with
  | false => exact tE.sub m2 rs.bare.1 rs.bare.2.1 xp q0
  | true => exact q0 (.bl true) H' F' f (rs.bool ▸ rs)
theorem pe_notE {a : Expr} {pos : Pos} {w : WE} (m : MonoE w) (h : PE X a (tE G T Wx w)) : PE X (.UnaryOp .Not a pos) (tE G T Wx (notE w)) := by
  refine ⟨fun pins s σ H Q I h' => ?_⟩
  obtain ⟨Ha, E, Fa, ρ, F, xq, S, xp, q⟩ := h'
  refine (L2.pe_not h).run pins s σ H Q I ?_
  refine tE.mk m S xp q fun r ρ' v H' F' f q0 rs => ?_
  obtain ⟨k, rfl, q0⟩ := q0
  refine ⟨k, rs.bool, q0 _ H' F' [] ⟨rs.bare.1.orNil, rs.fr, ⟨rfl, ?_⟩, fun a h => (by cases h), fun a h => (by cases h)⟩⟩
  unfold Has
  rfl
theorem pe_ifE {c a b : Expr} {pos : Pos} {wc : WT} {wa wb : WE} (m : MonoT wc) (ma : MonoE wa) (mb : MonoE wb) (hc : PT X c (tTT G T Wx wc)) (ha : PE X a (tE G T Wx wa)) (hb : PE X b (tE G T Wx wb)) : PE X (.IfExp c a b pos) (tE G T Wx (ifE wc wa wb)) := by
  refine ⟨fun pins s σ H Q I h' => ?_⟩
  obtain ⟨Ha, E, Fa, ρ, F, xq, S, xp, q⟩ := h'
  refine (L2.pe_ifExp hc ha hb).run pins s σ H Q I ?_
  refine tTT.mk m S xp q fun k ρ' H' F' q0 s f => ?_
  cases k with
  | true => exact tE.sub ma s f xp q0
  | false => exact tE.sub mb s f xp q0
end
end Pd

/-! Pd5: defs: their promises over data, their calls. -/
namespace Pd
open PySem L2

/-- what a def does, over data: the arguments' slots, what is wanted of the answer and of the arguments behind it -/
abbrev Spc := List Sl → (R → List Sl → Prop) → (Exc → List Sl → Prop) → Prop
def MonoS (φ : Spc) : Prop := ∀ as Q Q' E E', (∀ r o, Q r o → Q' r o) → (∀ x o, E x o → E' x o) → φ as Q E → φ as Q' E'
def Kind : Sl → Sl → Prop
  | .ol _ _, .ol true _ => True
  | .od _ t _, .od true t' _ => t = t'
  | .pot _, .pot true => True
  | .sh d, .sh d' => d' = d
  | .scr ns, .scr ns' => ns' = ns
  | _, _ => False
/-- what is handed in by value -/
def Sl.val : Sl → Prop
  | .sh _ => True
  | .scr _ => True
  | _ => False
def Kinds : List Sl → List Sl → Prop
  | [], [] => True
  | a :: as, b :: bs => Kind a b ∧ Kinds as bs
  | _, _ => False
theorem Kinds.get : ∀ {as bs : List Sl}, Kinds as bs → as.length = bs.length ∧ ∀ (i : Nat) (a b : Sl), as[i]? = some a → bs[i]? = some b → Kind a b
  | [], [], _ => ⟨rfl, fun i a b h => by simp at h⟩
  | a :: as, b :: bs, h => by
    obtain ⟨h1, h2⟩ := h
    obtain ⟨l, g⟩ := Kinds.get h2
    refine ⟨by simp [l], fun i x y e1 e2 => ?_⟩
    cases i with
    | zero => cases e1; cases e2; exact h1
    | succ i => exact g i x y (by simpa using e1) (by simpa using e2)
  | [], _ :: _, h => h.elim
  | _ :: _, [], h => h.elim
/-- behind a call -/
structure Rt (G : Wd) (H : Hp) (E : Av) (Fc : Fo) (vs : List V) (as outs : List Sl) (r : R) (v : V) (H' : Hp) (f : List Addr) : Prop where
  st : St G H (orF E f) Fc (vs.map some) H' outs Fc
  ow : Ow G (Vo (orF E f) Fc) H' f v r
  new : ∀ a ∈ f, H a = none
  kd : Kinds as outs
def spOf (G : Wd) (T : Xd) (φ : Spc) : Sp := fun vs H Q Ex => ∃ E Fc as, as.length = vs.length ∧ (∀ s ∈ as, s.isB = false → s.val) ∧ St G H E Fc (vs.map some) H as Fc ∧
  φ as (fun r outs => ∀ v H' f, Rt G H E Fc vs as outs r v H' f → Q v H')
    (fun x outs => ∀ cls d H', St G H E Fc (vs.map some) H' outs Fc → Kinds as outs → XOk G T (Vo E Fc) H' x cls d → Ex cls d H')
/-- a def keeps its promise wherever no repr runs -/
structure FnG (P : Program) (w : World) (K : PySem.W.Frag) (mg : Str → Option Value) (base : Heap) (k : Nat) (f : Addr) (fd : FuncData) (n : Nat) (ps : List Str) (sp : Sp) : Prop where
  run : ∀ (A : Around) (outer : List Env) (s : Shared) (H : Hp) (args : Args) (us : List Value) (vs : List V) (Q : VK) (E : XK), Room k A → A.guards = some [] → Env0 P w K mg base A outer s H →
    vs.length = n → BindsTo s fd args (ps.zip us) → Vals vs us → sp vs H Q E → codeAny (model P w) A (.call (.ref f) args) (CR (L2.CX P w) outer P w H s Q E) s

def argSl (ρ : List Sl) : AV → Option Sl
  | .vw i => (ρ[i]?).bind fun s => match s with
    | .ol _ l => some (.ol true l)
    | .od _ t l => some (.od true t l)
    | .pot _ => some (.pot true)
    | .sh d => some (.sh d)
    | .scr ns => some (.scr ns)
    | .no => none
  | .rv (.scr ns) => some (.scr ns)
  | .rv r => r.d.map Sl.sh
def argsSl (ρ : List Sl) : List AV → Option (List Sl)
  | [] => some []
  | a :: as => (argSl ρ a).bind fun s => (argsSl ρ as).map fun ss => s :: ss
def vwIdx : List AV → List Nat
  | [] => []
  | .vw i :: r => i :: vwIdx r
  | .rv _ :: r => vwIdx r
def backSl (old new : Sl) : Sl := match old, new with
  | .ol b _, .ol _ l => .ol b l
  | .od b t _, .od _ _ l => .od b t l
  | old, _ => old
def putBack : List Sl → List AV → List Sl → List Sl
  | ρ, .vw i :: avs, s :: ss => putBack (ρ.set i (backSl (ρ.getD i .no) s)) avs ss
  | ρ, .rv _ :: avs, _ :: ss => putBack ρ avs ss
  | ρ, _, _ => ρ
def callW (φ : Spc) (wa : WA) : WE := fun ρ xq Q => wa ρ xq fun avs ρ' => ∃ as, argsSl ρ' avs = some as ∧ ndB (vwIdx avs) = true ∧
  φ as (fun r outs => Q r (putBack ρ' avs outs)) (fun x outs => xq x (putBack ρ' avs outs))
theorem callW_mono {φ : Spc} {wa : WA} (mφ : MonoS φ) (m : MonoA wa) : MonoE (callW φ wa) := fun ρ xq Q Q' h q => m ρ xq _ _ (fun avs ρ' ⟨as, e, n, q⟩ => ⟨as, e, n, mφ _ _ _ _ _ (fun r o q => h _ _ q) (fun _ _ q => q) q⟩) q

theorem putBack_len : ∀ (avs : List AV) (ρ outs : List Sl), (putBack ρ avs outs).length = ρ.length
  | [], ρ, outs => by cases outs <;> rfl
  | .vw i :: avs, ρ, [] => rfl
  | .rv r :: avs, ρ, [] => rfl
  | .vw i :: avs, ρ, s :: ss => by
    show (putBack (ρ.set i _) avs ss).length = _
    rw [putBack_len avs, List.length_set]
  | .rv r :: avs, ρ, s :: ss => putBack_len avs ρ ss
theorem putBack_out : ∀ (avs : List AV) (ρ outs : List Sl) (i : Nat), i ∉ vwIdx avs → (putBack ρ avs outs)[i]? = ρ[i]?
  | [], ρ, outs, i, h => by cases outs <;> rfl
  | .vw j :: avs, ρ, [], i, h => rfl
  | .rv r :: avs, ρ, [], i, h => rfl
  | .vw j :: avs, ρ, s :: ss, i, h => by
    show (putBack (ρ.set j _) avs ss)[i]? = _
    have h1 : i ≠ j := fun e => h (by rw [e]; exact List.mem_cons_self)
    rw [putBack_out avs _ ss i fun q => h (List.mem_cons_of_mem _ q), List.getElem?_set_ne (Ne.symm h1)]
  | .rv r :: avs, ρ, s :: ss, i, h => putBack_out avs ρ ss i h
theorem mem_vwIdx : ∀ {avs : List AV} {j i : Nat}, avs[j]? = some (.vw i) → i ∈ vwIdx avs
  | [], j, i, h => by simp at h
  | .vw k :: avs, 0, i, h => by simp at h; subst h; exact List.mem_cons_self
  | .rv r :: avs, 0, i, h => by simp at h
  | .vw k :: avs, j + 1, i, h => List.mem_cons_of_mem _ (mem_vwIdx (by simpa using h))
  | .rv r :: avs, j + 1, i, h => mem_vwIdx (avs := avs) (j := j) (by simpa using h)
theorem of_vwIdx : ∀ {avs : List AV} {i : Nat}, i ∈ vwIdx avs → ∃ j : Nat, avs[j]? = some (AV.vw i)
  | [], i, h => by cases h
  | .vw k :: avs, i, h => by
    rcases List.mem_cons.mp h with rfl | h
    · exact ⟨0, rfl⟩
    · obtain ⟨j, e⟩ := of_vwIdx h
      exact ⟨j + 1, by simpa using e⟩
  | .rv r :: avs, i, h => by
    obtain ⟨j, e⟩ := of_vwIdx (avs := avs) h
    exact ⟨j + 1, by simpa using e⟩
theorem vw_inj : ∀ {avs : List AV} {j k i : Nat}, (vwIdx avs).Nodup → avs[j]? = some (.vw i) → avs[k]? = some (.vw i) → j = k
  | [], j, k, i, n, h1, h2 => by simp at h1
  | .vw m :: avs, 0, 0, i, n, h1, h2 => rfl
  | .vw m :: avs, 0, k + 1, i, n, h1, h2 => by
    simp at h1; subst h1
    exact absurd (mem_vwIdx (avs := avs) (j := k) (by simpa using h2)) (List.nodup_cons.mp n).1
  | .vw m :: avs, j + 1, 0, i, n, h1, h2 => by
    simp at h2; subst h2
    exact absurd (mem_vwIdx (avs := avs) (j := j) (by simpa using h1)) (List.nodup_cons.mp n).1
  | .vw m :: avs, j + 1, k + 1, i, n, h1, h2 => by rw [vw_inj (avs := avs) (j := j) (k := k) (List.nodup_cons.mp n).2 (by simpa using h1) (by simpa using h2)]
  | .rv r :: avs, 0, k, i, n, h1, h2 => by simp at h1
  | .rv r :: avs, j + 1, 0, i, n, h1, h2 => by simp at h2
  | .rv r :: avs, j + 1, k + 1, i, n, h1, h2 => by rw [vw_inj (avs := avs) (j := j) (k := k) n (by simpa using h1) (by simpa using h2)]
theorem putBack_in : ∀ (avs : List AV) (ρ outs : List Sl) (i j : Nat) (s t : Sl), (vwIdx avs).Nodup → avs[j]? = some (.vw i) → outs[j]? = some s → ρ[i]? = some t → (putBack ρ avs outs)[i]? = some (backSl t s)
  | [], ρ, outs, i, j, s, t, n, h1, h2, h3 => by simp at h1
  | .vw k :: avs, ρ, [], i, j, s, t, n, h1, h2, h3 => by simp at h2
  | .rv r :: avs, ρ, [], i, j, s, t, n, h1, h2, h3 => by simp at h2
  | .vw k :: avs, ρ, o :: os, i, 0, s, t, n, h1, h2, h3 => by
    simp at h1 h2; subst h1; subst h2
    show (putBack (ρ.set k _) avs os)[k]? = _
    rw [putBack_out avs _ os k (List.nodup_cons.mp n).1, List.getElem?_set_self (lt_of_get h3), List.getD_eq_getElem?_getD, h3]
    rfl
  | .vw k :: avs, ρ, o :: os, i, j + 1, s, t, n, h1, h2, h3 => by
    show (putBack (ρ.set k _) avs os)[i]? = _
    have h1' : avs[j]? = some (.vw i) := by simpa using h1
    refine putBack_in avs _ os i j s t (List.nodup_cons.mp n).2 h1' (by simpa using h2) ?_
    rw [List.getElem?_set_ne]
    · exact h3
    · rintro rfl
      exact (List.nodup_cons.mp n).1 (mem_vwIdx h1')
  | .rv r :: avs, ρ, o :: os, i, 0, s, t, n, h1, h2, h3 => by simp at h1
  | .rv r :: avs, ρ, o :: os, i, j + 1, s, t, n, h1, h2, h3 => putBack_in avs ρ os i j s t n (by simpa using h1) (by simpa using h2) h3
theorem argsSl_get {ρ : List Sl} : ∀ {avs : List AV} {as : List Sl}, argsSl ρ avs = some as → as.length = avs.length ∧ ∀ (j : Nat) (s : Sl), as[j]? = some s → ∃ av, avs[j]? = some av ∧ argSl ρ av = some s
  | [], as, h => by cases h; exact ⟨rfl, fun j s e => by simp at e⟩
  | a :: avs, as, h => by
    unfold argsSl at h
    cases q : argSl ρ a with
    | none => rw [q] at h; cases h
    | some s =>
      rw [q] at h
      change (argsSl ρ avs).map (fun ss => s :: ss) = some as at h
      cases q2 : argsSl ρ avs with
      | none => rw [q2] at h; cases h
      | some ss =>
        rw [q2] at h
        cases h
        obtain ⟨l, g⟩ := argsSl_get q2
        refine ⟨by simp [l], fun j t e => ?_⟩
        cases j with
        | zero => cases e; exact ⟨a, rfl, q⟩
        | succ j =>
          obtain ⟨av, e1, e2⟩ := g j t (by simpa using e)
          exact ⟨av, by simpa using e1, e2⟩
theorem AvsOk.get {G : Wd} {W : Av} {H : Hp} {σ : L2.St} {f : List Addr} {vs : List V} {avs : List AV} (h : AvsOk G W H σ f vs avs) : ∀ (j : Nat) (av : AV), avs[j]? = some av → ∃ v g, vs[j]? = some v ∧ AvOk G W H σ g v av ∧ ∀ a ∈ g, a ∈ f := by
  induction h with
  | nil => intro j av e; simp at e
  | @cons f fs v vs av avs p r ih =>
    intro j x e
    cases j with
    | zero => cases e; exact ⟨v, f, rfl, p, fun a h => List.mem_append_left _ h⟩
    | succ j =>
      obtain ⟨v', g, e1, p', s⟩ := ih j x (by simpa using e)
      exact ⟨v', g, by simpa using e1, p', fun a h => List.mem_append_right _ (s a h)⟩
def foOf (F : Fo) (avs : List AV) : Fo := fun j => match avs[j]? with
  | some (.vw i) => F i
  | _ => []
theorem foOf_in {F : Fo} {avs : List AV} {a : Addr} (h : InF (foOf F avs) a) : ∃ j i : Nat, avs[j]? = some (AV.vw i) ∧ a ∈ F i := by
  obtain ⟨j, h⟩ := h
  unfold foOf at h
  split at h
  · rename_i i e
    exact ⟨j, i, e, h⟩
  · cases h
section
variable {G : Wd} {T : Xd} {Wx : WX} {X : Cx} {Ha : Hp} {E : Av} {Fa : Fo} {σ : L2.St} {H : Hp} {ρ : List Sl} {F : Fo} {xq : XQ}
theorem backSl_ok {W : Av} {f : List Addr} {x : Option V} {y : Option V} {old new : Sl} {av : Sl} (e : Kind av new) (ea : ∃ b, old.r = av.r ∧ b = ()) (hx : SlOk G W H f x new) (hy : x = y) (ho : SlOk G W H f y old ∨ True) (hn : av ≠ .no)
    (keep : old.val → SlOk G W H f y old) : SlOk G W H f y (backSl old new) := by
  subst hy
  obtain ⟨_, ea, _⟩ := ea
  cases old with
  | no =>
    cases av with
    | no => exact absurd rfl hn
    | _ => cases ea
  | sh d => exact keep trivial
  | scr d => exact keep trivial
  | ol b l =>
    cases av with
    | ol b' l' =>
      cases new with
      | ol b2 l2 => exact hx
      | _ => exact e.elim
    | _ => cases ea
  | od b t l =>
    cases av with
    | od b' t' l' =>
      cases new with
      | od b2 t2 l2 =>
        cases b2 with
        | false => exact e.elim
        | true =>
          have e : t' = t2 := e
          subst e
          cases ea
          exact hx
      | _ => exact e.elim
    | _ => cases ea
  | pot b =>
    cases av with
    | pot b' =>
      cases new with
      | pot b2 => exact hx
      | _ => exact e.elim
    | _ => cases ea
theorem backSl_isB {old new : Sl} : (backSl old new).isB = old.isB := by
  cases old <;> cases new <;> rfl
theorem argSl_r {i : Nat} {s : Sl} (h : argSl ρ (.vw i) = some s) : ∃ t r, ρ[i]? = some t ∧ t.r = some r ∧ s.r = some r ∧ (s.isB = false → s.val) ∧ (t.val → s.val) := by
  change ((ρ[i]?).bind _) = some s at h
  cases q : ρ[i]? with
  | none => rw [q] at h; cases h
  | some t =>
    rw [q] at h
    cases t with
    | no => cases h
    | sh d => cases h; exact ⟨_, _, rfl, rfl, rfl, fun _ => trivial, fun _ => trivial⟩
    | scr d => cases h; exact ⟨_, _, rfl, rfl, rfl, fun _ => trivial, fun _ => trivial⟩
    | ol b l => cases h; exact ⟨_, _, rfl, rfl, rfl, fun h => (by cases h), fun h => h.elim⟩
    | od b t l => cases h; exact ⟨_, _, rfl, rfl, rfl, fun h => (by cases h), fun h => h.elim⟩
    | pot b => cases h; exact ⟨_, _, rfl, rfl, rfl, fun h => (by cases h), fun h => h.elim⟩
/-- the state at a callee's entry -/
theorem St.enter {avs : List AV} {as : List Sl} {vs : List V} {H1 : Hp} {F1 : Fo} {f : List Addr} (S : St G Ha E Fa σ H ρ F) {ρ1 : List Sl} (r : RsA G Ha E Fa σ H F avs ρ1 vs H1 F1 f)
    (e : argsSl ρ1 avs = some as) (n : (vwIdx avs).Nodup) : St G H1 (fun a => Vo E F1 a ∧ ¬ InF (foOf F1 avs) a) (foOf F1 avs) (vs.map some) H1 as (foOf F1 avs) ∧ (∀ s ∈ as, s.isB = false → s.val) := by
  obtain ⟨la, ga⟩ := argsSl_get e
  have lv := r.ow.len
  have sub : ∀ a, Vo (fun a => Vo E F1 a ∧ ¬ InF (foOf F1 avs) a) (foOf F1 avs) a → Vo E F1 a := fun a q => by
    rcases q with q | q
    · exact q.1
    · obtain ⟨j, i, _, q⟩ := foOf_in q
      exact .inr ⟨i, q⟩
  have shs : ∀ (j : Nat) (s : Sl), as[j]? = some s → s.isB = false → s.val ∧ foOf F1 avs j = [] := fun j s es hb => by
    obtain ⟨av, e1, e2⟩ := ga j s es
    cases av with
    | vw i =>
      obtain ⟨t, rr, h1, h2, h3, h4, _⟩ := argSl_r e2
      refine ⟨h4 hb, ?_⟩
      unfold foOf
      rw [e1]
      obtain ⟨v, _, o⟩ := r.st.slot h1 h2
      have hv := h4 hb
      cases s <;> first | exact hv.elim | (cases h3; exact o.1)
    | rv rr =>
      refine ⟨?_, by unfold foOf; rw [e1]⟩
      cases rr <;> cases e2 <;> exact trivial
  refine ⟨⟨by rw [List.length_map, la, lv], fun j s es => ?_, fun j hj => ?_, fun j k a h1 h2 => ?_, fun a q => fun z => z.2 q, fun a q => ?_, .refl _ _, fun _ _ _ _ => rfl, fun j s es hb a ha => ?_⟩, fun s hs hb => ?_⟩
  · obtain ⟨av, e1, e2⟩ := ga j s es
    obtain ⟨v, g, v1, o, sg⟩ := r.ow.get j av e1
    have hv : ((vs.map some)[j]?).join = some v := by rw [List.getElem?_map, v1]; rfl
    rw [hv]
    cases av with
    | vw i =>
      obtain ⟨t, rr, h1, h2, h3, h4, _⟩ := argSl_r e2
      obtain ⟨v', h5, o'⟩ := r.st.slot h1 h2
      rw [o.2] at h5
      cases h5
      unfold SlOk
      rw [h3]
      refine ⟨v, rfl, ?_⟩
      have ef : foOf F1 avs j = F1 i := by unfold foOf; rw [e1]
      rw [ef]
      exact o'.mv ⟨fun _ _ q _ => q, fun a q => .inl ((sub a q).imp .inl id)⟩ fun _ _ => rfl
    | rv rr =>
      have ef : foOf F1 avs j = [] := by unfold foOf; rw [e1]
      rw [ef]
      have go : ∀ d, rr.d = some d → SlOk G (Vo (fun a => Vo E F1 a ∧ ¬ InF (foOf F1 avs) a) (foOf F1 avs)) H1 [] (some v) (.sh d) := fun d q =>
        ⟨v, rfl, rfl, rv_has o (show rvD (.rv rr) = some d from q) (fun a ha z => r.off S a (sg a ha) (sub a z)) fun a z => (sub a z).imp .inl id⟩
      cases rr with
      | sh d => cases e2; exact go _ rfl
      | ol l => cases e2; exact go _ rfl
      | od t l => cases e2; exact go _ rfl
      | pot => cases e2
      | scr ns =>
        cases e2
        exact ⟨v, rfl, rfl, o.2.mv ⟨fun _ _ q _ => q, fun a z => .inl ((sub a z).imp .inl id)⟩⟩
  · unfold foOf
    rw [List.getElem?_eq_none (by omega)]
  · have q1 := foOf_in ⟨j, h1⟩
    unfold foOf at h1 h2
    split at h1
    · rename_i i e1
      split at h2
      · rename_i i' e2
        have := r.st.dj i i' a h1 h2
        subst this
        exact vw_inj n e1 e2
      · cases h2
    · cases h1
  · rcases q.1 with q | q
    · exact r.st.vd a (.inl q)
    · exact r.st.fd q
  · rw [(shs j s es hb).2] at ha; cases ha
  · obtain ⟨j, hj⟩ := List.mem_iff_getElem?.mp hs
    exact (shs j s hj hb).1
/-- the caller's state behind a call -/
theorem St.back {avs : List AV} {as outs : List Sl} {vs : List V} {H1 H2 : Hp} {F1 : Fo} {f g : List Addr} (S : St G Ha E Fa σ H ρ F) {ρ1 : List Sl} (r : RsA G Ha E Fa σ H F avs ρ1 vs H1 F1 f)
    (e : argsSl ρ1 avs = some as) (n : (vwIdx avs).Nodup) (s2 : St G H1 (orF (fun a => Vo E F1 a ∧ ¬ InF (foOf F1 avs) a) g) (foOf F1 avs) (vs.map some) H2 outs (foOf F1 avs)) (kd : Kinds as outs) (new : ∀ a ∈ g, H1 a = none) :
    St G Ha (orF E g) Fa σ H2 (putBack ρ1 avs outs) F1 ∧ Fr H1 F1 H2 F1 := by
  obtain ⟨la, ga⟩ := argsSl_get e
  obtain ⟨lk, gk⟩ := kd.get
  have lv := r.ow.len
  have S1 := r.st.less (E' := E) fun a h => .inl h
  have fr : Fr H1 F1 H2 F1 := ⟨fun a o h q => s2.fr.keep a o h fun z => by
      obtain ⟨j, i, _, z⟩ := foOf_in z
      exact q ⟨i, z⟩, s2.fr.dom, fun a h => .inl h⟩
  have mv : Mv (Vo E F1) H1 (Vo (orF E g) F1) H2 := ⟨fun a o h q => fr.keep a o h fun z => q (.inr z), fun a q => by
    rcases q with (q | q) | q
    · exact .inl (.inl q)
    · exact .inr (new a q)
    · exact .inl (.inr q)⟩
  have mv2 : ∀ a, Vo (orF E g) F1 a → Vo (orF (fun a => Vo E F1 a ∧ ¬ InF (foOf F1 avs) a) g) (foOf F1 avs) a := fun a q => by
    by_cases z : InF (foOf F1 avs) a
    · exact .inr z
    · rcases q with (q | q) | q
      · exact .inl (.inl ⟨.inl q, z⟩)
      · exact .inl (.inr q)
      · exact .inl (.inl ⟨.inr q, z⟩)
  refine ⟨⟨by rw [putBack_len]; exact S1.len, fun i s es => ?_, fun i hi => S1.nof i (by rw [putBack_len] at hi; exact hi), S1.dj, fun a q z => ?_, fun a q => ?_, S1.fr.trans fr, fun i s es hb => ?_, fun i s es hb => ?_⟩, fr⟩
  · by_cases hi : i ∈ vwIdx avs
    · obtain ⟨j, ej⟩ := of_vwIdx hi
      obtain ⟨v, g', v1, o, sg⟩ := r.ow.get j _ ej
      have hj : j < avs.length := lt_of_get ej
      obtain ⟨av, e1, e2⟩ := ga j as[j] (by simp [la, hj])
      rw [ej] at e1
      cases e1
      obtain ⟨t, rr, h1, h2, h3, h4, h6⟩ := argSl_r e2
      have ho : outs[j]? = some (outs[j]'(by rw [← lk, la]; exact hj)) := by simp
      rw [putBack_in avs ρ1 outs i j _ t n ej ho h1] at es
      cases es
      have kd1 := gk j _ _ (show as[j]? = some as[j] by simp [la, hj]) ho
      have ef : foOf F1 avs j = F1 i := by unfold foOf; rw [ej]
      have sl2 := s2.sl j _ ho
      rw [ef, show ((vs.map some)[j]?).join = some v by rw [List.getElem?_map, v1]; rfl] at sl2
      have hσ : σ[i]?.join = some v := by rw [o.2]; rfl
      refine backSl_ok (av := as[j]) kd1 ⟨(), by rw [h2, h3], rfl⟩ (sl2.mv ⟨fun _ _ q _ => q, fun a q => .inl (mv2 a q)⟩ fun _ _ => rfl) hσ.symm (.inr trivial) (fun z => by rw [z] at h3; cases h3) fun tv => ?_
      refine (S1.sl i _ h1).mv mv fun a ha => ?_
      obtain ⟨v', _, o'⟩ := S1.slot h1 h2
      cases t <;> first | exact tv.elim | (cases h2; rw [o'.1] at ha; cases ha)
    · rw [putBack_out avs ρ1 outs i hi] at es
      refine (S1.sl i s es).mv mv fun a ha => ?_
      cases q : H1 a with
      | none => exact absurd q (S1.fd ⟨i, ha⟩)
      | some o =>
        refine s2.fr.keep a o q fun z => ?_
        obtain ⟨j, k, ej, z⟩ := foOf_in z
        have := S1.dj i k a ha z
        subst this
        exact hi (mem_vwIdx ej)
  · rcases z with z | z
    · exact S1.ex a q z
    · exact S1.fd q (new a z)
  · rcases q with q | q
    · exact fr.dom a (S1.vd a q)
    · exact s2.vd a (.inr q)
  · by_cases hi : i ∈ vwIdx avs
    · obtain ⟨j, ej⟩ := of_vwIdx hi
      have hj : j < avs.length := lt_of_get ej
      obtain ⟨av, e1, e2⟩ := ga j as[j] (by simp [la, hj])
      rw [ej] at e1
      cases e1
      obtain ⟨t, rr, h1, h2, h3, h4, h6⟩ := argSl_r e2
      have ho : outs[j]? = some (outs[j]'(by rw [← lk, la]; exact hj)) := by simp
      rw [putBack_in avs ρ1 outs i j _ t n ej ho h1] at es
      cases es
      rw [backSl_isB] at hb
      exact S1.bo i t h1 hb
    · rw [putBack_out avs ρ1 outs i hi] at es
      exact S1.bo i s es hb
  · by_cases hi : i ∈ vwIdx avs
    · obtain ⟨j, ej⟩ := of_vwIdx hi
      have hj : j < avs.length := lt_of_get ej
      obtain ⟨av, e1, e2⟩ := ga j as[j] (by simp [la, hj])
      rw [ej] at e1
      cases e1
      obtain ⟨t, rr, h1, h2, h3, h4, h6⟩ := argSl_r e2
      have ho : outs[j]? = some (outs[j]'(by rw [← lk, la]; exact hj)) := by simp
      rw [putBack_in avs ρ1 outs i j _ t n ej ho h1] at es
      cases es
      rw [backSl_isB] at hb
      exact S1.ub i t h1 hb
    · rw [putBack_out avs ρ1 outs i hi] at es
      exact S1.ub i s es hb
/-- the promise's question answered at a call -/
theorem callW.go {φ : Spc} {Q : VK} {avs : List AV} {ρ1 : List Sl} {vs : List V} {H1 : Hp} {F1 : Fo} {f : List Addr} {as : List Sl} {Q0 : R → List Sl → Prop}
    (S : St G Ha E Fa σ H ρ F) (xp : XP G T Ha E Fa Wx H F xq) (mφ : MonoS φ) (r : RsA G Ha E Fa σ H F avs ρ1 vs H1 F1 f) (e : argsSl ρ1 avs = some as) (n : (vwIdx avs).Nodup)
    (h : φ as (fun rr outs => Q0 rr (putBack ρ1 avs outs)) (fun x outs => xq x (putBack ρ1 avs outs)))
    (k : ∀ rr ρ' v H' F' g, Q0 rr ρ' → Rs G Ha E Fa σ H F (.rv rr) ρ' v H' F' g → Q v H') : spOf G T φ vs H1 Q (fun cls d H' => Wx cls d σ H') := by
  obtain ⟨en, sh⟩ := St.enter S r e n
  refine ⟨_, _, as, by rw [(argsSl_get e).1, r.ow.len], sh, en, mφ _ _ _ _ _ (fun rr outs q v H2 g t => ?_) (fun x outs q cls d H2 s2 kd xo => ?_) h⟩
  · obtain ⟨st, fr⟩ := St.back S r e n t.st t.kd t.new
    refine k rr _ v H2 F1 g q ⟨st, r.fr.trans fr, Ow.mv ⟨fun _ _ q _ => q, fun a q => .inl ?_⟩ (fun _ _ => rfl) t.ow, fun a ha => ?_, fun a ha => .inr (r.fr.none (t.new a ha))⟩
    · by_cases z : InF (foOf F1 avs) a
      · exact .inr z
      · rcases q with (q | q) | q
        · exact .inl (.inl ⟨.inl q, z⟩)
        · exact .inl (.inr q)
        · exact .inl (.inl ⟨.inr q, z⟩)
    · cases w : Ha a with
      | none => rfl
      | some o => exact absurd (t.new a ha) (r.st.fr.dom a (by rw [w]; simp))
  · obtain ⟨st, fr⟩ := St.back (g := []) S r e n s2.orNil kd (fun a h => (by cases h))
    refine xp x _ cls d σ H2 F1 (st.less fun a h => .inl h) (r.fr.trans fr) (xo.mv (H' := H2) fun a q => ?_) q
    by_cases z : InF (foOf F1 avs) a
    · exact .inr z
    · exact .inl ⟨q, z⟩
end
end Pd

/-! Pd6: calls by name, statements, the theorem of a def. -/
namespace Pd
open PySem L2

section
variable {G : Wd} {T : Xd} {Wx : WX} {X : Cx}
/-- a callee runs -/
theorem run_g {k n : Nat} {f : Addr} {fd : FuncData} {ps : List Str} {sp : Sp} {pins : List (Addr × Obj)} {σ : L2.St} {H : Hp} {s : Shared} {Q : VK} {us : List Value} {vs : List V} {args : Args} (Fn : FnG X.prog X.w X.K X.mg X.base k f fd n ps sp) (hr : Room k X.A) (hg : X.A.guards = some [])
    (tk : Takes X Wx) (I : Inv X pins σ H s) (hn : vs.length = n) (hb : BindsTo s fd args (ps.zip us)) (r : Vals vs us) (h : sp vs H Q fun cls d H' => Wx cls d σ H') (hc : args = ⟨args.pos, args.kw⟩) :
    wpAny (model X.prog X.w) X.A (call (.ref f) args.pos args.kw) (EP X pins σ Q) X.xe s := by
  refine wpAny_call (codeAny_mono (Fn.run X.A X.stack s H args us vs Q _ hr hg I.env0 hn hb r h) fun res s' hq => ?_)
  cases res with
  | error e => exact passAt tk σ pins H s e s' I hq
  | ok fl =>
    cases fl with
    | ret u => exact I.after hq
    | next => exact hq.elim
    | brk => exact hq.elim
    | cont => exact hq.elim
theorem pe_callP {k n : Nat} {f : Addr} {fd : FuncData} {ps : List Str} {x : Str} {p pos : Pos} {e : Expr} {es : List Expr} {φ : Spc} {wa : WA} (Fn : FnG X.prog X.w X.K X.mg X.base k f fd n ps (spOf G T φ)) (mφ : MonoS φ) (ma : MonoA wa) (hr : Room k X.A) (hgd : X.A.guards = some [])
    (tk : Takes X Wx) (hg : Gl X x) (hm : X.mg x = some (.ref f)) (hk : PySem.W.keepIn X.K (.ref f) = true) (hb : ∀ us : List Value, us.length = n → bindArgs fd ⟨us, []⟩ = pure (ps.zip us))
    (hl : ∀ ρ xq Q, wa ρ xq Q → wa ρ xq fun avs ρ' => avs.length = n ∧ Q avs ρ')
    (ha : PA X (e :: es) (tAs G T Wx wa)) (hdb : (x == ("__debug__" : Str)) = false) (he : starEach (e :: es) X.env = (false, eval e X.env) :: starEach es X.env) (hpl : ∀ pos, (backTo pos (starEach es X.env)).any (·.1) = false) :
    PE X (.Call (.Name x p) (e :: es) [] pos) (tE G T Wx (callW φ wa)) := by
  refine ⟨fun pins s σ H Q I h => ?_⟩
  obtain ⟨Ha, E, Fa, ρ, F, xq, S, xp, h⟩ := h
  refine wpAny_Call_Name_kw (ld_glob I hg hm ?_ hdb)
  refine PySem.W.callWith_K (h₀ := X.base) I.ok.mod.kin hk (thn (ha.run pos pins s σ H (fun vs H' => vs.length = n ∧ spOf G T φ vs H' Q fun cls d H' => Wx cls d σ H') I ?_) fun us s1 ⟨vs, H1, I1, r, ln, q⟩ => ⟨I1.kIn, ?_⟩) he (hpl pos)
  · refine ⟨Ha, E, Fa, ρ, F, xq, S, xp, ma _ _ _ _ (fun avs ρ' q vs H' F' f r => ?_) (hl _ _ _ h)⟩
    obtain ⟨ln, as, e1, n, q⟩ := q
    exact ⟨by rw [r.ow.len]; exact ln, callW.go S xp mφ r e1 (ndB.nd n) q fun rr ρ' v H' F' g q rs => q v H' F' g rs⟩
  · exact run_g (args := ⟨us, []⟩) Fn hr hgd tk I1 ln (.of_eq (hb us (by rw [← r.length]; exact ln))) r q rfl
theorem pe_callP0 {k : Nat} {f : Addr} {fd : FuncData} {ps : List Str} {x : Str} {p pos : Pos} {φ : Spc} (Fn : FnG X.prog X.w X.K X.mg X.base k f fd 0 ps (spOf G T φ)) (mφ : MonoS φ) (hr : Room k X.A) (hgd : X.A.guards = some [])
    (tk : Takes X Wx) (hg : Gl X x) (hm : X.mg x = some (.ref f)) (hk : PySem.W.keepIn X.K (.ref f) = true) (hb : ∀ us : List Value, us.length = 0 → bindArgs fd ⟨us, []⟩ = pure (ps.zip us))
    (hdb : (x == ("__debug__" : Str)) = false) : PE X (.Call (.Name x p) [] [] pos) (tE G T Wx (callW φ (seqA []))) := by
  refine ⟨fun pins s σ H Q I h => ?_⟩
  obtain ⟨Ha, E, Fa, ρ, F, xq, S, xp, h⟩ := h
  refine wpAny_Call_Name_kw (ld_glob I hg hm ?_ hdb)
  refine PySem.W.callWith_K0 I.kIn hk ?_
  obtain ⟨as, e1, n, q⟩ := h
  exact run_g (args := ⟨[], []⟩) (us := []) (vs := []) Fn hr hgd tk I rfl (.of_eq (hb [] rfl)) .nil (callW.go S xp mφ (.nil S) e1 (ndB.nd n) q fun rr ρ' v H' F' g q rs => q v H' F' g rs) rfl
/-- keywords' values put in the parameters' order -/
def permV {α : Type} (d : α) (ps ks : List Str) (zs : List α) : List α := ps.map fun p => zs.getD (ks.idxOf p) d
/-- the order of evaluation is that of the keywords: the held arguments are put in the parameters' order -/
def permA (ps ks : List Str) (wa : WA) : WA := fun ρ xq Q => wa ρ xq fun avs ρ' => Q (permV (.vw 0) ps ks avs) ρ'
theorem permA_mono {ps ks : List Str} {wa : WA} (m : MonoA wa) : MonoA (permA ps ks wa) := fun ρ xq Q Q' h q => m ρ xq _ _ (fun avs ρ' q => h _ _ q) q
end

/-! ### statements -/
structure Po where
  nx : List Sl → Prop
  rt : R → List Sl → Prop
  bk : List Sl → Prop
  ct : List Sl → Prop
  xq : XQ
abbrev WS := List Sl → Po → Prop
structure Po.Le (P P' : Po) : Prop where
  nx : ∀ ρ, P.nx ρ → P'.nx ρ
  rt : ∀ r ρ, P.rt r ρ → P'.rt r ρ
  bk : ∀ ρ, P.bk ρ → P'.bk ρ
  ct : ∀ ρ, P.ct ρ → P'.ct ρ
  xq : P'.xq = P.xq
def MonoW (w : WS) : Prop := ∀ ρ P P', P.Le P' → w ρ P → w ρ P'
/-- what is wanted of the ends, over the states -/
structure EndsOk (G : Wd) (T : Xd) (Ha : Hp) (E : Av) (Fa : Fo) (Wx : WX) (n : Nat) (H : Hp) (F : Fo) (P : Po) (D : Ends) : Prop where
  nx : ∀ ρ' σ' H' F', St G Ha E Fa σ' H' ρ' F' → Fr H F H' F' → P.nx ρ' → D.nx σ' H'
  bk : ∀ ρ' σ' H' F', St G Ha E Fa σ' H' ρ' F' → Fr H F H' F' → P.bk ρ' → D.bk σ' H'
  ct : ∀ ρ' σ' H' F', St G Ha E Fa σ' H' ρ' F' → Fr H F H' F' → P.ct ρ' → D.ct σ' H'
  rt : ∀ r ρ' σ' v H' F' f, St G Ha (orF E f) Fa σ' H' ρ' F' → Fr H F H' F' → Ow G (Vo (orF E f) F') H' f v r → (∀ a ∈ f, Ha a = none) → P.rt r ρ' → D.rt v H'
  xp : XP G T Ha E Fa Wx H F P.xq
def tS (G : Wd) (T : Xd) (Wx : WX) (w : WS) : TS := fun D σ H => ∃ Ha E Fa ρ F P, St G Ha E Fa σ H ρ F ∧ EndsOk G T Ha E Fa Wx ρ.length H F P D ∧ w ρ P
section
variable {G : Wd} {T : Xd} {Wx : WX} {X : Cx} {Ha : Hp} {E : Av} {Fa : Fo} {σ : L2.St} {H : Hp} {ρ : List Sl} {F : Fo} {xq : XQ} {P : Po} {D : Ends} {n : Nat}
theorem EndsOk.step {H' : Hp} {F' : Fo} (e : EndsOk G T Ha E Fa Wx n H F P D) (f : Fr H F H' F') {m : Nat} : EndsOk G T Ha E Fa Wx m H' F' P D where
  nx := fun ρ' σ' H2 F2 s f2 q => e.nx ρ' σ' H2 F2 s (f.trans f2) q
  bk := fun ρ' σ' H2 F2 s f2 q => e.bk ρ' σ' H2 F2 s (f.trans f2) q
  ct := fun ρ' σ' H2 F2 s f2 q => e.ct ρ' σ' H2 F2 s (f.trans f2) q
  rt := fun r ρ' σ' v H2 F2 g s f2 o na q => e.rt r ρ' σ' v H2 F2 g s (f.trans f2) o na q
  xp := e.xp.step f
def nxS : WS := fun ρ P => P.nx ρ
def seqS (w w2 : WS) : WS := fun ρ P => w ρ { P with nx := fun ρ' => w2 ρ' P }
def brkS : WS := fun ρ P => P.bk ρ
def cntS : WS := fun ρ P => P.ct ρ
def ifS (c : WT) (a b : WS) : WS := fun ρ P => c ρ P.xq fun k ρ' => if k = true then a ρ' P else b ρ' P
def retS (w : WE) : WS := fun ρ P => w ρ P.xq P.rt
def rtnS : WS := fun ρ P => P.rt (.sh .none) ρ
def dropS (w : WE) : WS := fun ρ P => w ρ P.xq fun _ ρ' => P.nx ρ'
def asgS (i : Nat) (w : WE) : WS := fun ρ P => w ρ P.xq fun r ρ' => ltB i ρ'.length ∧ P.nx (ρ'.set i r.sl)
theorem nxS_mono : MonoW nxS := fun ρ P P' h q => h.nx _ q
theorem seqS_mono {w w2 : WS} (m : MonoW w) (m2 : MonoW w2) : MonoW (seqS w w2) := by
  intro ρ P P' h q
  unfold seqS at q ⊢
  exact m ρ { P with nx := fun ρ' => w2 ρ' P } { P' with nx := fun ρ' => w2 ρ' P' } ⟨fun ρ q => m2 ρ P P' h q, h.rt, h.bk, h.ct, h.xq⟩ q
theorem brkS_mono : MonoW brkS := fun ρ P P' h q => h.bk _ q
theorem cntS_mono : MonoW cntS := fun ρ P P' h q => h.ct _ q
theorem ifS_mono {c : WT} {a b : WS} (m : MonoT c) (ma : MonoW a) (mb : MonoW b) : MonoW (ifS c a b) := fun ρ P P' h q => by
  unfold ifS
  rw [h.xq]
  refine m _ _ _ _ (fun k ρ' q => ?_) q
  cases k with
  | true => exact ma _ _ _ h q
  | false => exact mb _ _ _ h q
theorem retS_mono {w : WE} (m : MonoE w) : MonoW (retS w) := fun ρ P P' h q => by
  unfold retS
  rw [h.xq]
  exact m _ _ _ _ h.rt q
theorem rtnS_mono : MonoW rtnS := fun ρ P P' h q => h.rt _ _ q
theorem dropS_mono {w : WE} (m : MonoE w) : MonoW (dropS w) := fun ρ P P' h q => by
  unfold dropS
  rw [h.xq]
  exact m _ _ _ _ (fun _ _ q => h.nx _ q) q
theorem asgS_mono {i : Nat} {w : WE} (m : MonoE w) : MonoW (asgS i w) := fun ρ P P' h q => by
  unfold asgS
  rw [h.xq]
  exact m _ _ _ _ (fun _ _ q => ⟨q.1, h.nx _ q.2⟩) q
theorem tS.sub {w : WS} {ρ' : List Sl} {σ' : L2.St} {H' : Hp} {F' : Fo} (s : St G Ha E Fa σ' H' ρ' F') (f : Fr H F H' F') (e : EndsOk G T Ha E Fa Wx n H F P D) (h : w ρ' P) : tS G T Wx w D σ' H' :=
  ⟨Ha, E, Fa, ρ', F', P, s, e.step f, h⟩
theorem pss_nilS : PSs X [] (tS G T Wx nxS) := by
  refine ⟨fun pins s σ H D I h => ?_⟩
  obtain ⟨Ha, E, Fa, ρ, F, P, S, e, h⟩ := h
  exact pss_nil.run pins s σ H D I (e.nx _ _ _ _ S (.refl _ _) h)
theorem tSeq.mk {w w2 : WS} (h : tS G T Wx (seqS w w2) D σ H) : tSeq (tS G T Wx w) (tS G T Wx w2) D σ H := by
  obtain ⟨Ha, E, Fa, ρ, F, P, S, e, h⟩ := h
  exact ⟨Ha, E, Fa, ρ, F, { P with nx := fun ρ' => w2 ρ' P }, S, ⟨fun ρ' σ' H' F' s f q => tS.sub s f e q, e.bk, e.ct, e.rt, e.xp⟩, h⟩
theorem pss_consS {st : Stmt} {rest : List Stmt} {w w2 : WS} (h1 : PS X st (tS G T Wx w)) (h2 : PSs X rest (tS G T Wx w2)) : PSs X (st :: rest) (tS G T Wx (seqS w w2)) := by
  refine ⟨fun pins s σ H D I h => ?_⟩
  exact (pss_cons h1 h2).run pins s σ H D I (tSeq.mk h)
theorem ps_passS {pos : Pos} : PS X (.Pass pos) (tS G T Wx nxS) := by
  refine ⟨fun pins s σ H D I h => ?_⟩
  obtain ⟨Ha, E, Fa, ρ, F, P, S, e, h⟩ := h
  exact ps_pass.run pins s σ H D I (e.nx _ _ _ _ S (.refl _ _) h)
theorem ps_brkS {pos : Pos} : PS X (.Break pos) (tS G T Wx brkS) := by
  refine ⟨fun pins s σ H D I h => ?_⟩
  obtain ⟨Ha, E, Fa, ρ, F, P, S, e, h⟩ := h
  exact ps_break.run pins s σ H D I (e.bk _ _ _ _ S (.refl _ _) h)
theorem ps_cntS {pos : Pos} : PS X (.Continue pos) (tS G T Wx cntS) := by
  refine ⟨fun pins s σ H D I h => ?_⟩
  obtain ⟨Ha, E, Fa, ρ, F, P, S, e, h⟩ := h
  exact ps_continue.run pins s σ H D I (e.ct _ _ _ _ S (.refl _ _) h)
theorem ps_ifS {c : Expr} {a b : List Stmt} {pos : Pos} {wc : WT} {wa wb : WS} (m : MonoT wc) (hc : PT X c (tTT G T Wx wc)) (ha : PSs X a (tS G T Wx wa)) (hb : PSs X b (tS G T Wx wb)) : PS X (.If c a b pos) (tS G T Wx (ifS wc wa wb)) := by
  refine ⟨fun pins s σ H D I h => ?_⟩
  obtain ⟨Ha, E, Fa, ρ, F, P, S, e, h⟩ := h
  refine (ps_if hc ha hb).run pins s σ H D I ?_
  refine tTT.mk m S e.xp h fun k ρ' H' F' q s f => ?_
  cases k with
  | true => exact tS.sub s f e q
  | false => exact tS.sub s f e q
theorem ps_retS {ex : Expr} {pos : Pos} {w : WE} (m : MonoE w) (h : PE X ex (tE G T Wx w)) : PS X (.Return (some ex) pos) (tS G T Wx (retS w)) := by
  refine ⟨fun pins s σ H D I h' => ?_⟩
  obtain ⟨Ha, E, Fa, ρ, F, P, S, e, h'⟩ := h'
  refine (ps_ret h).run pins s σ H D I ?_
  exact tE.mk m S e.xp h' fun r ρ' v H' F' f q rs => e.rt r ρ' σ v H' F' f rs.st rs.fr rs.ow rs.na q
theorem ps_rtnS {pos : Pos} : PS X (.Return none pos) (tS G T Wx rtnS) := by
  refine ⟨fun pins s σ H D I h' => ?_⟩
  obtain ⟨Ha, E, Fa, ρ, F, P, S, e, h'⟩ := h'
  refine ps_retN.run pins s σ H D I (e.rt (.sh .none) ρ σ .non H F [] S.orNil (.refl _ _) ⟨rfl, ?_⟩ (fun a h => (by cases h)) h')
  unfold Has
  rfl
theorem Rs.nE {av : AV} {ρ' : List Sl} {v : V} {H' : Hp} {F' : Fo} {f : List Addr} (S : St G Ha E Fa σ H ρ F) (r : Rs G Ha E Fa σ H F av ρ' v H' F' f) : ∀ a ∈ f, ¬ E a := fun a h q => by
  rcases r.nw a h with z | z
  · exact S.ex a z q
  · exact S.vd a q z
theorem ps_dropS {ex : Expr} {pos : Pos} {w : WE} (m : MonoE w) (h : PE X ex (tE G T Wx w)) (hs : swapsWith ex none pos.line X.env = pure false) : PS X (.Expr ex pos) (tS G T Wx (dropS w)) := by
  refine ⟨fun pins s σ H D I h' => ?_⟩
  obtain ⟨Ha, E, Fa, ρ, F, P, S, e, h'⟩ := h'
  refine (ps_expr h hs).run pins s σ H D I ?_
  exact tE.mk m S e.xp h' fun r ρ' v H' F' f q rs => e.nx ρ' σ H' F' (rs.st.less fun a h => .inl h) rs.fr q
theorem ps_docS {x : Str} {j : Nat} {pos pos' : Pos} : PS X (.Expr (.Constant (.str x) j pos) pos') (tS G T Wx nxS) := by
  refine ⟨fun pins s σ H D I h => ?_⟩
  obtain ⟨Ha, E, Fa, ρ, F, P, S, e, h⟩ := h
  exact ps_doc.run pins s σ H D I (e.nx _ _ _ _ S (.refl _ _) h)
/-- a value stored at a slot -/
theorem asg_go {i : Nat} {r : R} {ρ' : List Sl} {v : V} {H' : Hp} {F' : Fo} {f : List Addr} (S : St G Ha E Fa σ H ρ F) (e : EndsOk G T Ha E Fa Wx n H F P D) (rs : Rs G Ha E Fa σ H F (.rv r) ρ' v H' F' f) (q : ltB i ρ'.length ∧ P.nx (ρ'.set i r.sl)) : D.nx (σ.set i (some v)) H' :=
  e.nx _ _ _ _ (rs.st.asg (ltB.lt q.1) rs.ow rs.na (rs.nE S)) ⟨rs.fr.keep, rs.fr.dom, fun a h => by
    rcases inF_upd h with h | ⟨j, _, h⟩
    · exact rs.nw a h
    · exact rs.fr.new a ⟨j, h⟩⟩ q.2
theorem ps_asgS {i : Nat} {x : Str} {ex : Expr} {pos pos' : Pos} {w : WE} (m : MonoE w) (hN : X.N.Nodup) (hi : X.N[i]? = some x) (hx : Loc X.env.scope x) (hf : X.fn x = true ∨ X.env.scope.names.lookup x = some .local) (h : PE X ex (tE G T Wx w))
    (hs : swapsWith ex (some (.Name x pos')) pos.line X.env = pure false) : PS X (.Assign [.Name x pos'] ex pos) (tS G T Wx (asgS i w)) := by
  refine ⟨fun pins s σ H D I h' => ?_⟩
  obtain ⟨Ha, E, Fa, ρ, F, P, S, e, h'⟩ := h'
  refine (ps_set hN hi hx h hs hf).run pins s σ H D I ?_
  exact tE.mk m S e.xp h' fun r ρ' v H' F' f q rs => asg_go S e rs q
end

/-! ### the theorem of a def -/
def outSl (ρ : List Sl) (i : Nat) : Sl → Option Sl
  | .sh d => some (.sh d)
  | .scr ns => some (.scr ns)
  | .ol _ _ => match ρ[i]? with
    | some (.ol true l) => some (.ol true l)
    | _ => none
  | .od _ t _ => match ρ[i]? with
    | some (.od true t' l) => if t' = t then some (.od true t' l) else none
    | _ => none
  | .pot _ => match ρ[i]? with
    | some (.pot true) => some (.pot true)
    | _ => none
  | .no => none
def outsOf (ρ : List Sl) : Nat → List Sl → Option (List Sl)
  | _, [] => some []
  | i, a :: as => (outSl ρ i a).bind fun o => (outsOf ρ (i + 1) as).map fun os => o :: os
/-- what a body is to reach -/
def bodyP (as : List Sl) (Q : R → List Sl → Prop) (E : Exc → List Sl → Prop) : Po :=
  { nx := fun ρ => ∃ os, outsOf ρ 0 as = some os ∧ Q (.sh .none) os
    rt := fun r ρ => ∃ os, outsOf ρ 0 as = some os ∧ Q r os
    bk := fun _ => False
    ct := fun _ => False
    xq := fun x ρ => ∃ os, outsOf ρ 0 as = some os ∧ E x os }
/-- a body as a promise: m further slots -/
def body (m : Nat) (w : WS) : Spc := fun as Q E => w (as ++ List.replicate m .no) (bodyP as Q E)
theorem outsOf_get {ρ : List Sl} : ∀ {as os : List Sl} {i : Nat}, outsOf ρ i as = some os → os.length = as.length ∧ ∀ (j : Nat) (a o : Sl), as[j]? = some a → os[j]? = some o → outSl ρ (i + j) a = some o
  | [], os, i, h => by cases h; exact ⟨rfl, fun j a o e => by simp at e⟩
  | a :: as, os, i, h => by
    unfold outsOf at h
    cases q : outSl ρ i a with
    | none => rw [q] at h; cases h
    | some o =>
      rw [q] at h
      change (outsOf ρ (i + 1) as).map (fun os => o :: os) = some os at h
      cases q2 : outsOf ρ (i + 1) as with
      | none => rw [q2] at h; cases h
      | some os' =>
        rw [q2] at h
        cases h
        obtain ⟨l, g⟩ := outsOf_get q2
        refine ⟨by simp [l], fun j b o' e1 e2 => ?_⟩
        cases j with
        | zero => cases e1; cases e2; exact q
        | succ j =>
          have := g j b o' (by simpa using e1) (by simpa using e2)
          rw [show i + 1 + j = i + (j + 1) by omega] at this
          exact this
theorem outSl_kind {ρ : List Sl} {i : Nat} {a o : Sl} (h : outSl ρ i a = some o) : Kind a o ∧ (a.val → o = a) ∧ (¬ a.val → ρ[i]? = some o ∧ o.isB = true) := by
  cases a with
  | no => cases h
  | sh d => cases h; exact ⟨rfl, fun _ => rfl, fun h => absurd trivial h⟩
  | scr d => cases h; exact ⟨rfl, fun _ => rfl, fun h => absurd trivial h⟩
  | ol b l =>
    simp only [outSl] at h
    split at h
    · rename_i l' e
      cases h
      exact ⟨trivial, fun h => h.elim, fun _ => ⟨e, rfl⟩⟩
    · cases h
  | od b t l =>
    simp only [outSl] at h
    split at h
    · rename_i t' l' e
      split at h
      · rename_i et
        cases h
        subst et
        exact ⟨rfl, fun h => h.elim, fun _ => ⟨e, rfl⟩⟩
      · cases h
    · cases h
  | pot b =>
    simp only [outSl] at h
    split at h
    · rename_i e
      cases h
      exact ⟨trivial, fun h => h.elim, fun _ => ⟨e, rfl⟩⟩
    · cases h
theorem Kinds.of : ∀ {as os : List Sl}, os.length = as.length → (∀ (j : Nat) (a o : Sl), as[j]? = some a → os[j]? = some o → Kind a o) → Kinds as os
  | [], [], _, _ => trivial
  | a :: as, o :: os, l, g => ⟨g 0 a o rfl rfl, Kinds.of (by simpa using l) fun j b c e1 e2 => g (j + 1) b c (by simpa using e1) (by simpa using e2)⟩
  | [], _ :: _, l, _ => by simp at l
  | _ :: _, [], l, _ => by simp at l
section
variable {G : Wd} {T : Xd} {Ha : Hp} {E : Av} {Fc : Fo} {σ : L2.St} {H : Hp} {ρ : List Sl} {F : Fo} {vs : List V} {as : List Sl}
theorem St.valF {i : Nat} {s : Sl} {E : Av} {Fa : Fo} {Ha : Hp} {σ : L2.St} {F : Fo} {ρ : List Sl} (S : St G Ha E Fa σ H ρ F) (e : ρ[i]? = some s) (v : s.val) : F i = [] := by
  cases s with
  | sh d => obtain ⟨_, _, o⟩ := S.slot e rfl; exact o.1
  | scr d => obtain ⟨_, _, o⟩ := S.slot e rfl; exact o.1
  | _ => exact v.elim
/-- the body's first state -/
theorem St.begin (m : Nat) (S : St G H E Fc (vs.map some) H as Fc) : St G H E Fc (vs.map some ++ List.replicate m none) H (as ++ List.replicate m .no) Fc where
  len := by simp [S.len]
  sl := fun i s e => by
    by_cases hi : i < as.length
    · rw [List.getElem?_append_left hi] at e
      rw [List.getElem?_append_left (by rw [← S.len]; exact hi)]
      exact S.sl i s e
    · rw [List.getElem?_append_right (by omega)] at e
      have : s = .no := List.eq_of_mem_replicate (List.mem_of_getElem? e)
      subst this
      exact S.nof i (by omega)
  nof := fun i hi => S.nof i (by simp at hi; omega)
  dj := S.dj
  ex := S.ex
  vd := S.vd
  fr := S.fr
  bo := fun i s e b => rfl
  ub := fun i s e b => by
    by_cases hi : i < as.length
    · rw [List.getElem?_append_left hi] at e
      exact S.ub i s e b
    · rw [S.nof i (by omega)]
      intro a h
      cases h
/-- the arguments' state behind a body -/
theorem St.finish {H' : Hp} {os : List Sl} {F' : Fo} {f : List Addr} {σ' : L2.St} {ρ' : List Sl} (S0 : St G H E Fc (vs.map some) H as Fc) (sh : ∀ s ∈ as, s.isB = false → s.val) (S : St G H (orF E f) Fc σ' H' ρ' F') (na : ∀ a ∈ f, H a = none) (e : outsOf ρ' 0 as = some os) :
    St G H (orF E f) Fc (vs.map some) H' os Fc ∧ Kinds as os := by
  obtain ⟨l, g⟩ := outsOf_get e
  have gi : ∀ (j : Nat) (o : Sl), os[j]? = some o → ∃ a, as[j]? = some a ∧ outSl ρ' j a = some o := fun j o ej => by
    have hj : j < as.length := by rw [← l]; exact lt_of_get ej
    refine ⟨as[j], by simp [hj], ?_⟩
    have := g j as[j] o (by simp [hj]) ej
    simpa using this
  have mv : Mv (Vo E Fc) H (Vo (orF E f) Fc) H' := ⟨fun a o h n => S.fr.keep a o h fun z => n (.inr z), fun a q => by
    rcases q with (q | q) | q
    · exact .inl (.inl q)
    · exact .inr (na a q)
    · exact .inl (.inr q)⟩
  have own : ∀ (j : Nat) (a o : Sl), as[j]? = some a → os[j]? = some o → ¬ a.val → ρ'[j]? = some o ∧ o.isB = true ∧ F' j = Fc j := fun j a o e1 e2 n => by
    have := g j a o e1 e2
    rw [Nat.zero_add] at this
    obtain ⟨_, _, h⟩ := outSl_kind this
    exact ⟨(h n).1, (h n).2, S.bo j o (h n).1 (h n).2⟩
  refine ⟨⟨by rw [l, S0.len], fun j o ej => ?_, fun j hj => S0.nof j (by omega), S0.dj, fun a q z => ?_, S.vd, ⟨S.fr.keep, S.fr.dom, fun a h => .inl h⟩, fun _ _ _ _ => rfl, fun j o ej hb => ?_⟩, .of l fun j a o e1 e2 => by
    have := g j a o e1 e2
    exact (outSl_kind this).1⟩
  · obtain ⟨a, ea, eo⟩ := gi j o ej
    by_cases n : a.val
    · rw [(outSl_kind eo).2.1 n]
      refine (S0.sl j _ ea).mv mv fun b hb => ?_
      rw [S0.valF ea n] at hb; cases hb
    · obtain ⟨h1, h2, h3⟩ := own j a o ea ej n
      have s0 := S0.sl j a ea
      have s1 := S.sl j o h1
      rw [h3] at s1
      have kd := (outSl_kind eo).1
      have s2 : SlOk G (Vo (orF E f) Fc) H' (Fc j) (σ'[j]?.join) o := s1.mv ⟨fun _ _ q _ => q, fun b q => .inl ?_⟩ fun _ _ => rfl
      · cases a with
        | no => cases eo
        | sh d => exact absurd trivial n
        | scr d => exact absurd trivial n
        | ol b l =>
          cases o with
          | ol b2 l2 =>
            obtain ⟨v0, e0, z, p, xs, q1, q2, _⟩ := s0
            obtain ⟨v1, e1, z1, p1, xs1, q11, q12, q13, q14⟩ := s2
            rw [q2] at q12
            cases q12
            exact ⟨v0, e0, z1, p, xs1, q1, q2, q13, q14⟩
          | _ => exact kd.elim
        | od b t l =>
          cases o with
          | od b2 t2 l2 =>
            obtain ⟨v0, e0, z, p, xs, q1, q2, _⟩ := s0
            obtain ⟨v1, e1, z1, p1, xs1, q11, q12, q13, q14⟩ := s2
            rw [q2] at q12
            cases q12
            exact ⟨v0, e0, z1, p, xs1, q1, q2, q13, q14⟩
          | _ => exact kd.elim
        | pot b =>
          cases o with
          | pot b2 =>
            obtain ⟨v0, e0, p0⟩ := s0
            obtain ⟨v1, e1, p1⟩ := s2
            obtain ⟨c, r, q1, q2⟩ := G.hd p0
            obtain ⟨c', r', q1', q2'⟩ := G.hd p1
            rw [q1] at q1'
            cases q1'
            refine ⟨v0, e0, ?_⟩
            show G.pt H' (Fc j) v0
            rw [q2, ← q2']
            exact p1
          | _ => exact kd.elim
      · rcases q with q | ⟨i, q⟩
        · exact .inl q
        · by_cases hi : i < as.length
          · have ho : os[i]? = some (os[i]'(by rw [l]; exact hi)) := by simp
            by_cases ni : as[i].val
            · rw [S0.valF (i := i) (s := as[i]) (by simp [hi]) ni] at q; cases q
            · obtain ⟨_, _, h⟩ := own i as[i] _ (by simp [hi]) ho ni
              exact .inr ⟨i, by rw [h]; exact q⟩
          · rw [S0.nof i (by omega)] at q; cases q
  · rcases z with z | z
    · exact S0.ex a q z
    · exact S0.fd q (na a z)
  · obtain ⟨a, ea, eo⟩ := gi j o ej
    by_cases n : a.val
    · intro b hb'
      rw [S0.valF ea n] at hb'; cases hb'
    · obtain ⟨_, h2, _⟩ := own j a o ea ej n
      rw [hb] at h2; cases h2
end
end Pd

/-! Pd7: built-in operations and functions over data. -/
namespace Pd
open PySem L2

section
variable {X : Cx} {pins : List (Addr × Obj)} {σ : L2.St} {H : Hp} {s : Shared} {W : Av}
mutual
theorem Has.reads (I : Inv X pins σ H s) : ∀ (d : PyData) (v : V) (u : Value), d.plain = true → Has X.K W H d v → RelV v u → ∃ as, Reads s.heap u d as
  | .none, v, u, _, h, r => by unfold Has at h; subst h; cases r; exact ⟨_, .none⟩
  | .bool b, v, u, _, h, r => by unfold Has at h; subst h; cases r; exact ⟨_, .bool b⟩
  | .int i, v, u, _, h, r => by unfold Has at h; subst h; obtain ⟨t, rfl⟩ := r; exact ⟨_, .int i t⟩
  | .str x, v, u, _, h, r => by unfold Has at h; subst h; obtain ⟨t, rfl⟩ := r; exact ⟨_, .str x t⟩
  | .list l, v, u, p, h, r => by
    unfold Has at h
    obtain ⟨z, a, xs, rfl, h1, h2⟩ := h
    cases r
    obtain ⟨its, rv, ⟨o, n, e, hc, hd, hs⟩, _⟩ := I.list h1.sq
    obtain ⟨as, ra⟩ := HasL.reads I l xs its (by simpa [PyData.plain] using p) h2 rv
    exact ⟨_, .list e hc hs (by simpa using ra)⟩
  | .tuple l, v, u, p, h, r => by
    unfold Has at h
    obtain ⟨z, a, xs, rfl, h1, h2⟩ := h
    cases r
    obtain ⟨its, rv, ⟨o, e, hc, n, hs⟩, _⟩ := I.tuple h1.sq
    obtain ⟨as, ra⟩ := HasL.reads I l xs its (by simpa [PyData.plain] using p) h2 rv
    exact ⟨_, .tuple e hc hs (by simpa using ra)⟩
  | .dict l, v, u, p, h, r => by cases p
theorem HasL.reads (I : Inv X pins σ H s) : ∀ (l : List PyData) (xs : List V) (us : List Value), PyData.plainAll l = true → HasL X.K W H l xs → Vals xs us → ∃ as, ReadsAll s.heap us l as
  | [], xs, us, _, h, r => by unfold HasL at h; subst h; cases r; exact ⟨_, .nil⟩
  | d :: ds, xs, us, p, h, r => by
    unfold HasL at h
    obtain ⟨x, xr, rfl, h1, h2⟩ := h
    cases r with
    | cons r1 r2 =>
      have p' : d.plain = true ∧ PyData.plainAll ds = true := by simpa [PyData.plainAll] using p
      obtain ⟨as, ra⟩ := Has.reads I d x _ p'.1 h1 r1
      obtain ⟨bs, rb⟩ := HasL.reads I ds xr _ p'.2 h2 r2
      exact ⟨_, .cons ra rb⟩
end
theorem Vw.reads (I : Inv X pins σ H s) {d : PyData} {v : V} {u : Value} (p : d.plain = true) (h : Vw X.K W H d v) (r : RelV v u) : ∃ as, Reads s.heap u d as := by
  cases d with
  | list l =>
    obtain ⟨z, a, xs, rfl, h1, h2⟩ := h
    cases r
    obtain ⟨its, rv, ⟨o, n, e, hc, hd, hs⟩, _⟩ := I.list (SqL.of h1)
    obtain ⟨as, ra⟩ := HasL.reads I l xs its (by simpa [PyData.plain] using p) h2 rv
    exact ⟨_, .list e hc hs (by simpa using ra)⟩
  | dict l => cases p
  | none => exact Has.reads (W := W) I _ _ _ p h r
  | bool b => exact Has.reads (W := W) I _ _ _ p h r
  | int i => exact Has.reads (W := W) I _ _ _ p h r
  | str x => exact Has.reads (W := W) I _ _ _ p h r
  | tuple l => exact Has.reads (W := W) I _ _ _ p h r
end

/-! ### two operands -/
section
variable {G : Wd} {T : Xd} {Wx : WX} {X : Cx} {Ha : Hp} {E : Av} {Fa : Fo} {σ : L2.St} {H : Hp} {ρ : List Sl} {F : Fo} {xq : XQ}
theorem Rs.one {av : AV} {ρ' : List Sl} {v : V} {H' : Hp} {F' : Fo} {f : List Addr} (S : St G Ha E Fa σ H ρ F) (r : Rs G Ha E Fa σ H F av ρ' v H' F' f) : RsA G Ha E Fa σ H F [av] ρ' [v] H' F' f := by
  have := RsA.cons S r (.nil r.st)
  rw [List.append_nil] at this
  exact this
theorem prim1_go {Q : VK} {Q0 : R → List Sl → Prop} {pw : PwP} {ga : WG} (mp : MonoP pw) (ma : MonoG ga) (S : St G Ha E Fa σ H ρ F) (xp : XP G T Ha E Fa Wx H F xq)
    (h : primW pw (seqA [ga]) ρ xq Q0) (k : ∀ r ρ' v H' F' f, Q0 r ρ' → Rs G Ha E Fa σ H F (.rv r) ρ' v H' F' f → Q v H') : tG G T Wx ga σ H fun x H1 => rP G pw [x] H1 Q := by
  refine tG.mk ma S xp h fun av ρ1 v H1 F1 f q r => ?_
  obtain ⟨ds, e, q⟩ := q
  exact primW.go mp (r.one S) e q k
theorem prim2_go {Q : VK} {Q0 : R → List Sl → Prop} {pw : PwP} {ga gb : WG} (mp : MonoP pw) (ma : MonoG ga) (mb : MonoG gb) (S : St G Ha E Fa σ H ρ F) (xp : XP G T Ha E Fa Wx H F xq)
    (h : primW pw (seqA [ga, gb]) ρ xq Q0) (k : ∀ r ρ' v H' F' f, Q0 r ρ' → Rs G Ha E Fa σ H F (.rv r) ρ' v H' F' f → Q v H') :
    tG G T Wx ga σ H fun x H1 => tG G T Wx gb σ H1 fun y H2 => rP G pw [x, y] H2 Q := by
  refine tG.mk ma S xp h fun av ρ1 v H1 F1 f q r => ?_
  refine tG.mk mb r.st ((xp.step r.fr).more fun a h => .inl h) q fun av2 ρ2 v2 H2 F2 f2 q2 r2 => ?_
  obtain ⟨ds, e, q2⟩ := q2
  exact primW.go mp (.cons S r (r2.one r.st)) e q2 k
def r1P (G : Wd) (pw : PwP) : V → Hp → VK → Prop := fun x H Q => rP G pw [x] H Q
def r2P (G : Wd) (pw : PwP) : R2 := fun x y H Q => rP G pw [x, y] H Q
theorem mono2 {pw : PwP} {ga gb : WG} (mp : MonoP pw) (ma : MonoG ga) (mb : MonoG gb) : MonoE (primW pw (seqA [ga, gb])) := primW_mono mp (seqA_mono fun g h => by
  rcases List.mem_cons.mp h with rfl | h
  · exact ma
  · rw [List.mem_singleton.mp h]; exact mb)
theorem mono1 {pw : PwP} {ga : WG} (mp : MonoP pw) (ma : MonoG ga) : MonoE (primW pw (seqA [ga])) := primW_mono mp (seqA_mono fun g h => by rw [List.mem_singleton.mp h]; exact ma)
theorem pe_binP {op : Operator} {a b : Expr} {pos : Pos} {pw : PwP} {ga gb : WG} (mp : MonoP pw) (ma : MonoG ga) (mb : MonoG gb) (ho : OpR X (binaryOp op) (r2P G pw)) (ha : PE X a (tG G T Wx ga)) (hb : PE X b (tG G T Wx gb)) :
    PE X (.BinOp a op b pos) (tE G T Wx (primW pw (seqA [ga, gb]))) := by
  refine ⟨fun pins s σ H Q I h => ?_⟩
  obtain ⟨Ha, E, Fa, ρ, F, xq, S, xp, h⟩ := h
  exact (pe_op ho ha hb).run pins s σ H Q I (prim2_go mp ma mb S xp h fun r ρ' v H' F' f q rs => q v H' F' f rs)
theorem pe_unP {op : UnaryOp} {a : Expr} {pos : Pos} {pw : PwP} {ga : WG} (mp : MonoP pw) (ma : MonoG ga) (ho : UnR X (unaryOp op) (r1P G pw)) (ha : PE X a (tG G T Wx ga)) : PE X (.UnaryOp op a pos) (tE G T Wx (primW pw (seqA [ga]))) := by
  refine ⟨fun pins s σ H Q I h => ?_⟩
  obtain ⟨Ha, E, Fa, ρ, F, xq, S, xp, h⟩ := h
  exact (pe_un ho ha).run pins s σ H Q I (prim1_go mp ma S xp h fun r ρ' v H' F' f q rs => q v H' F' f rs)
theorem pe_cmpP {op : CmpOp} {a b : Expr} {pos : Pos} {pw : PwP} {ga gb : WG} (mp : MonoP pw) (ma : MonoG ga) (mb : MonoG gb) (ho : OpR X (compareOp op) (r2P G pw)) (ha : PE X a (tG G T Wx ga)) (hb : PE X b (tG G T Wx gb)) (hm : behindInMarks op b = false) :
    PE X (.Compare a [op] [b] pos) (tE G T Wx (primW pw (seqA [ga, gb]))) := by
  refine ⟨fun pins s σ H Q I h => ?_⟩
  obtain ⟨Ha, E, Fa, ρ, F, xq, S, xp, h⟩ := h
  exact (pe_cmpR ho ha hb hm).run pins s σ H Q I (prim2_go mp ma mb S xp h fun r ρ' v H' F' f q rs => q v H' F' f rs)
theorem pt_cmpP {op : CmpOp} {a b : Expr} {pos : Pos} {pw : PwP} {ga gb : WG} (mp : MonoP pw) (ma : MonoG ga) (mb : MonoG gb) (ho : OpR X (compareOp op) (r2P G pw)) (ha : PE X a (tG G T Wx ga)) (hb : PE X b (tG G T Wx gb)) (hm : behindInMarks op b = false) :
    PT X (.Compare a [op] [b] pos) (tTT G T Wx (valT (primW pw (seqA [ga, gb])))) := by
  refine ⟨fun pins s σ H Q I h => ?_⟩
  obtain ⟨Ha, E, Fa, ρ, F, xq, S, xp, h⟩ := h
  refine (pt_cmpR ho ha hb hm).run pins s σ H Q I (prim2_go mp ma mb S xp h fun r ρ' v H' F' f q rs => ?_)
  obtain ⟨b, rfl, q⟩ := q
  exact ⟨b, rs.bool, q _ _ rs.bare.1 rs.bare.2.1⟩
theorem pe_ixP {a b : Expr} {pos : Pos} {pw : PwP} {ga gb : WG} (mp : MonoP pw) (ma : MonoG ga) (mb : MonoG gb) (ho : IxR X (r2P G pw)) (ha : PE X a (tG G T Wx ga)) (hb : PE X b (tG G T Wx gb)) (hs : PlainIx b) :
    PE X (.Subscript a b pos) (tE G T Wx (primW pw (seqA [ga, gb]))) := by
  refine ⟨fun pins s σ H Q I h => ?_⟩
  obtain ⟨Ha, E, Fa, ρ, F, xq, S, xp, h⟩ := h
  exact (pe_ix ho ha hb hs).run pins s σ H Q I (prim2_go mp ma mb S xp h fun r ρ' v H' F' f q rs => q v H' F' f rs)
end

/-! ### results -/
section
variable {G : Wd} {W : Av} {H : Hp}
theorem New.same {d : PyData} {v : V} (h : Has G.K W H d v) : New G W H (.sh d) v H [] :=
  ⟨fun _ _ h => h, ⟨rfl, Has.mv ⟨fun _ _ q _ => q, fun a q => .inl (q.elim id fun q => (by cases q))⟩ _ _ h⟩, fun a h => (by cases h)⟩
theorem New.int {i : Int} : New G W H (.sh (.int i)) (.int i) H [] := New.same (by unfold Has; rfl)
theorem New.bool {b : Bool} : New G W H (.sh (.bool b)) (.bl b) H [] := New.same (by unfold Has; rfl)
theorem New.str {x : Str} : New G W H (.sh (.str x)) (.str x) H [] := New.same (by unfold Has; rfl)
theorem New.non : New G W H (.sh .none) .non H [] := New.same (by unfold Has; rfl)
theorem New.lst {l : List PyData} {xs : List V} {p : Addr} (hW : ∀ a, W a → H a ≠ none) (hp : H p = none) (z : l.length ≤ sizeLine) (h : HasL G.K W H l xs) : New G W H (.ol l) (.ref p) (upd H p (.lst xs)) [p] :=
  ⟨fun a o h => by rw [upd_ne (ne_of_none h hp)]; exact h, ⟨z, p, xs, rfl, rfl, upd_same, HasL.mv ⟨fun a o h _ => by rw [upd_ne (ne_of_none h hp)]; exact h, fun a q => by
    rcases q with q | q
    · exact .inl q
    · rw [List.mem_singleton.mp q]; exact .inr hp⟩ _ _ h⟩, fun a h => by rw [List.mem_singleton.mp h]; exact hp⟩
theorem New.tup {l : List PyData} {xs : List V} {p : Addr} (hW : ∀ a, W a → H a ≠ none) (hp : H p = none) (z : l.length ≤ sizeLine) (h : HasL G.K W H l xs) : New G W H (.sh (.tuple l)) (.ref p) (upd H p (.tup xs)) [] :=
  ⟨fun a o h => by rw [upd_ne (ne_of_none h hp)]; exact h, ⟨rfl, by
    unfold Has
    exact ⟨z, p, xs, rfl, ⟨upd_same, fun q => q.elim (fun q => hW p q hp) fun q => (by cases q)⟩, HasL.mv ⟨fun a o h _ => by rw [upd_ne (ne_of_none h hp)]; exact h, fun a q => .inl (q.elim id fun q => (by cases q))⟩ _ _ h⟩⟩, fun a h => (by cases h)⟩
theorem VwL.one {d : PyData} {vs : List V} (h : VwL G.K W H [d] vs) : ∃ v, vs = [v] ∧ Vw G.K W H d v := by
  cases h with
  | cons a b => cases b; exact ⟨_, rfl, a⟩
theorem VwL.two {d e : PyData} {vs : List V} (h : VwL G.K W H [d, e] vs) : ∃ v u, vs = [v, u] ∧ Vw G.K W H d v ∧ Vw G.K W H e u := by
  cases h with
  | cons a b =>
    cases b with
    | cons b c => cases c; exact ⟨_, _, rfl, a, b⟩
theorem VwL.len {ds : List PyData} {vs : List V} (h : VwL G.K W H ds vs) : ds.length = vs.length := by
  induction h with
  | nil => rfl
  | cons _ _ ih => simp [ih]
theorem Vw.int {i : Int} {v : V} (h : Vw G.K W H (.int i) v) : v = .int i := by
  have h : Has G.K W H (.int i) v := h
  unfold Has at h
  exact h
theorem Vw.bool {i : Bool} {v : V} (h : Vw G.K W H (.bool i) v) : v = .bl i := by
  have h : Has G.K W H (.bool i) v := h
  unfold Has at h
  exact h
theorem Vw.str {i : Str} {v : V} (h : Vw G.K W H (.str i) v) : v = .str i := by
  have h : Has G.K W H (.str i) v := h
  unfold Has at h
  exact h
theorem Vw.non {v : V} (h : Vw G.K W H .none v) : v = .non := by
  have h : Has G.K W H .none v := h
  unfold Has at h
  exact h
theorem Vw.lst {l : List PyData} {v : V} (h : Vw G.K W H (.list l) v) : ∃ a xs, v = .ref a ∧ H a = some (.lst xs) ∧ HasL G.K W H l xs ∧ l.length ≤ sizeLine := by
  obtain ⟨z, a, xs, h1, h2, h3⟩ := h
  exact ⟨a, xs, h1, h2, h3, z⟩
theorem Vw.tup {l : List PyData} {v : V} (h : Vw G.K W H (.tuple l) v) : ∃ a xs, v = .ref a ∧ H a = some (.tup xs) ∧ ¬ W a ∧ HasL G.K W H l xs ∧ l.length ≤ sizeLine := by
  have h : Has G.K W H (.tuple l) v := h
  unfold Has at h
  obtain ⟨z, a, xs, h1, h2, h3⟩ := h
  exact ⟨a, xs, h1, h2.1, h2.2, h3, z⟩
end

/-! ### numbers -/
def isInts (ds : List PyData) (f : Int → Int → (R → Prop) → Prop) (Q : R → Prop) : Prop := ∃ i j, ds = [.int i, .int j] ∧ f i j Q
def pSub : PwP := fun ds Q => ∃ i j, ds = [.int i, .int j] ∧ Q (.sh (.int (i - j)))
def pMod : PwP := fun ds Q => ∃ i j, ds = [.int i, .int j] ∧ 0 < j ∧ Q (.sh (.int (i % j)))
def pDiv : PwP := fun ds Q => ∃ i j, ds = [.int i, .int j] ∧ (0 < j ∧ j < 1073741824) ∧ Q (.sh (.int (i / j)))
def pPow : PwP := fun ds Q => ∃ i j, ds = [.int i, .int j] ∧ CPow i j ∧ Q (.sh (.int (i ^ j.toNat)))
def pShl : PwP := fun ds Q => ∃ i j, ds = [.int i, .int j] ∧ CPow i j ∧ Q (.sh (.int (i * 2 ^ j.toNat)))
def pNeg : PwP := fun ds Q => ∃ i, ds = [.int i] ∧ Q (.sh (.int (-i)))
theorem pSub_mono : MonoP pSub := fun ds Q Q' h ⟨i, j, e, q⟩ => ⟨i, j, e, h _ q⟩
theorem pMod_mono : MonoP pMod := fun ds Q Q' h ⟨i, j, e, c, q⟩ => ⟨i, j, e, c, h _ q⟩
theorem pDiv_mono : MonoP pDiv := fun ds Q Q' h ⟨i, j, e, c, q⟩ => ⟨i, j, e, c, h _ q⟩
theorem pPow_mono : MonoP pPow := fun ds Q Q' h ⟨i, j, e, c, q⟩ => ⟨i, j, e, c, h _ q⟩
theorem pShl_mono : MonoP pShl := fun ds Q Q' h ⟨i, j, e, c, q⟩ => ⟨i, j, e, c, h _ q⟩
theorem pNeg_mono : MonoP pNeg := fun ds Q Q' h ⟨i, e, q⟩ => ⟨i, e, h _ q⟩
section
variable {G : Wd} {X : Cx}
/-- from a rule of two ints -/
theorem opII {g : Value → Value → Sem Value} {C : Int → Int → Prop} {k : Int → Int → Int} {pw : PwP} (h : OpR X g (rI C fun i j => .int (k i j))) (hp : ∀ ds Q, pw ds Q → ∃ i j, ds = [.int i, .int j] ∧ C i j ∧ Q (.sh (.int (k i j)))) : OpR X g (r2P G pw) := by
  intro pins s σ H x y v u Q I rx ry h'
  obtain ⟨W, ds, hW, hv, hq⟩ := h'
  obtain ⟨i, j, rfl, c, q⟩ := hp _ _ hq
  obtain ⟨a, b, e, h1, h2⟩ := hv.two
  cases e
  exact h pins s σ H x y v u Q I rx ry ⟨i, j, h1.int, h2.int, c, q _ _ _ .int⟩
theorem opII0 {g : Value → Value → Sem Value} {k : Int → Int → Int} {pw : PwP} (h : OpR X g (rI0 fun i j => .int (k i j))) (hp : ∀ ds Q, pw ds Q → ∃ i j, ds = [.int i, .int j] ∧ Q (.sh (.int (k i j)))) : OpR X g (r2P G pw) := by
  intro pins s σ H x y v u Q I rx ry h'
  obtain ⟨W, ds, hW, hv, hq⟩ := h'
  obtain ⟨i, j, rfl, q⟩ := hp _ _ hq
  obtain ⟨a, b, e, h1, h2⟩ := hv.two
  cases e
  exact h pins s σ H x y v u Q I rx ry ⟨i, j, h1.int, h2.int, q _ _ _ .int⟩
theorem o_sub : OpR X (binaryOp .Sub) (r2P G pSub) := opII0 op_sub fun _ _ h => h
theorem o_mod : OpR X (binaryOp .Mod) (r2P G pMod) := opII op_mod fun _ _ h => h
theorem o_div : OpR X (binaryOp .FloorDiv) (r2P G pDiv) := opII op_fdiv fun _ _ h => h
theorem o_pow : OpR X (binaryOp .Pow) (r2P G pPow) := opII op_pow fun _ _ h => h
theorem o_shl : OpR X (binaryOp .LShift) (r2P G pShl) := opII op_shl fun _ _ h => h
theorem o_neg : UnR X (unaryOp .USub) (r1P G pNeg) := by
  intro pins s σ H x v Q I rx h'
  obtain ⟨W, ds, hW, hv, i, rfl, q⟩ := h'
  obtain ⟨a, e, h1⟩ := hv.one
  cases e
  exact un_neg pins s σ H x v Q I rx ⟨i, h1.int, q _ _ _ .int⟩
/-- a + b: ints, texts, tuples, lists -/
def pAdd : PwP := fun ds Q => match ds with
  | [.int i, .int j] => Q (.sh (.int (i + j)))
  | [.str x, .str y] => x.length + y.length ≤ sizeLine ∧ Q (.sh (.str (x ++ y)))
  | [.tuple a, .tuple b] => a.length + b.length ≤ sizeLine ∧ Q (.sh (.tuple (a ++ b)))
  | [.list a, .list b] => a.length + b.length ≤ sizeLine ∧ Q (.ol (a ++ b))
  | _ => False
theorem pAdd_mono : MonoP pAdd := by
  intro ds Q Q' h q
  unfold pAdd at q ⊢
  split at q
  · exact h _ q
  · exact ⟨q.1, h _ q.2⟩
  · exact ⟨q.1, h _ q.2⟩
  · exact ⟨q.1, h _ q.2⟩
  · exact q
theorem o_add (hK : X.K = G.K) : OpR X (binaryOp .Add) (r2P G pAdd) := by
  intro pins s σ H x y v u Q I rx ry h'
  obtain ⟨W, ds, hW, hv, hq⟩ := h'
  unfold pAdd at hq
  split at hq
  · obtain ⟨a, b, e, h1, h2⟩ := hv.two
    cases e
    exact op_add pins s σ H x y v u Q I rx ry ⟨_, _, h1.int, h2.int, hq _ _ _ .int⟩
  · obtain ⟨a, b, e, h1, h2⟩ := hv.two
    cases e
    exact op_add_str pins s σ H x y v u Q I rx ry ⟨_, _, h1.str, h2.str, hq.1, hq.2 _ _ _ .str⟩
  · rename_i la lb
    obtain ⟨a, b, e, h1, h2⟩ := hv.two
    cases e
    obtain ⟨p, xs, e1, t1, n1, l1, z1⟩ := h1.tup
    obtain ⟨q, ys, e2, t2, n2, l2, z2⟩ := h2.tup
    refine op_catA pins s σ H x y v u Q I rx ry ⟨p, q, xs, ys, e1, e2, SqT.of t1, SqT.of t2, by rw [l1.length, l2.length]; exact hq.1, fun e => ?_, fun e e' => ?_, fun e e' r hr => ?_⟩
    · subst e
      have la0 : la = [] := List.length_eq_zero_iff.mp l1.length.symm
      subst la0
      rw [← e2]
      exact hq.2 _ _ _ (.same (by unfold Has; exact ⟨z2, q, ys, e2, ⟨t2, n2⟩, l2⟩))
    · subst e'
      have lb0 : lb = [] := List.length_eq_zero_iff.mp l2.length.symm
      subst lb0
      rw [← e1]
      exact hq.2 _ _ _ (.same (by rw [List.append_nil]; unfold Has; exact ⟨z1, p, xs, e1, ⟨t1, n1⟩, l1⟩))
    · exact hq.2 _ _ _ (.tup hW hr (by rw [List.length_append]; exact hq.1) (l1.append l2))
  · obtain ⟨a, b, e, h1, h2⟩ := hv.two
    cases e
    obtain ⟨p, xs, e1, t1, l1, z1⟩ := h1.lst
    obtain ⟨q, ys, e2, t2, l2, z2⟩ := h2.lst
    exact op_cat pins s σ H x y v u Q I rx ry ⟨p, q, xs, ys, e1, e2, t1, t2, by rw [l1.length, l2.length]; exact hq.1, fun r hr => hq.2 _ _ _ (.lst hW hr (by rw [List.length_append]; exact hq.1) (l1.append l2))⟩
  · exact hq.elim
/-- a * b -/
def pMul : PwP := fun ds Q => match ds with
  | [.int i, .int j] => CMul i j ∧ Q (.sh (.int (i * j)))
  | [.list a, .int k] => (-(2 ^ 63) ≤ k ∧ k < 2 ^ 63 ∧ a.length * k.toNat ≤ sizeLine) ∧ Q (.ol (List.replicate k.toNat a).flatten)
  | [.tuple a, .int k] => (a ≠ [] ∧ 2 ≤ k ∧ k ≤ 1000 ∧ a.length ≤ 1000) ∧ Q (.sh (.tuple (List.replicate k.toNat a).flatten))
  | _ => False
theorem pMul_mono : MonoP pMul := by
  intro ds Q Q' h q
  unfold pMul at q ⊢
  split at q
  · exact ⟨q.1, h _ q.2⟩
  · exact ⟨q.1, h _ q.2⟩
  · exact ⟨q.1, h _ q.2⟩
  · exact q
theorem len_rep {α : Type} (l : List α) : ∀ n, (List.replicate n l).flatten.length = l.length * n
  | 0 => by simp
  | n + 1 => by
    rw [List.replicate_succ, List.flatten_cons, List.length_append, len_rep l n, Nat.mul_succ]
    omega
theorem o_mul : OpR X (binaryOp .Mult) (r2P G pMul) := by
  intro pins s σ H x y v u Q I rx ry h'
  obtain ⟨W, ds, hW, hv, hq⟩ := h'
  unfold pMul at hq
  split at hq
  · obtain ⟨a, b, e, h1, h2⟩ := hv.two
    cases e
    exact op_mul pins s σ H x y v u Q I rx ry ⟨_, _, h1.int, h2.int, hq.1, hq.2 _ _ _ .int⟩
  · obtain ⟨a, b, e, h1, h2⟩ := hv.two
    cases e
    obtain ⟨p, xs, e1, t1, l1, z1⟩ := h1.lst
    exact op_rep pins s σ H x y v u Q I rx ry ⟨p, _, xs, e1, h2.int, t1, hq.1.1, hq.1.2.1, by rw [l1.length]; exact hq.1.2.2, fun r hr => hq.2 _ _ _ (.lst hW hr (by rw [len_rep]; exact hq.1.2.2) (l1.rep _))⟩
  · obtain ⟨a, b, e, h1, h2⟩ := hv.two
    cases e
    rename_i la k
    obtain ⟨p, xs, e1, t1, n1, l1, z1⟩ := h1.tup
    refine op_repT pins s σ H x y v u Q I rx ry ⟨p, _, xs, e1, h2.int, SqT.of t1, fun e => hq.1.1 (List.length_eq_zero_iff.mp (by rw [← l1.length, e]; rfl)), hq.1.2.1, hq.1.2.2.1, by rw [l1.length]; exact hq.1.2.2.2, fun r hr => hq.2 _ _ _ (.tup hW hr ?_ (l1.rep _))⟩
    rw [len_rep]
    have h3 : la.length * k.toNat ≤ 1000 * 1000 := Nat.mul_le_mul hq.1.2.2.2 (by omega)
    exact Nat.le_trans h3 (by decide)
  · exact hq.elim

/-! ### comparisons -/
def pEq : PwP := fun ds Q => ∃ a b, ds = [a, b] ∧ a.plain = true ∧ b.plain = true ∧ min a.depth b.depth ≤ 100 ∧ Q (.sh (.bool (PyData.eqv a b)))
def pNe : PwP := fun ds Q => ∃ a b, ds = [a, b] ∧ a.plain = true ∧ b.plain = true ∧ min a.depth b.depth ≤ 100 ∧ Q (.sh (.bool (!PyData.eqv a b)))
def pLt : PwP := fun ds Q => ∃ a b, ds = [a, b] ∧ a.plain = true ∧ b.plain = true ∧ PySem.W.alike a b = true ∧ a ≠ .none ∧ min a.depth b.depth ≤ 100 ∧ Q (.sh (.bool (PySem.W.dataLt a b)))
def pGt : PwP := fun ds Q => ∃ a b, ds = [a, b] ∧ a.plain = true ∧ b.plain = true ∧ PySem.W.alike a b = true ∧ a ≠ .none ∧ min a.depth b.depth ≤ 100 ∧ Q (.sh (.bool (PySem.W.dataLt b a)))
def pLe : PwP := fun ds Q => ∃ a b, ds = [a, b] ∧ a.plain = true ∧ b.plain = true ∧ PySem.W.alike a b = true ∧ a ≠ .none ∧ min a.depth b.depth ≤ 100 ∧ Q (.sh (.bool (!PySem.W.dataLt b a)))
def pGe : PwP := fun ds Q => ∃ a b, ds = [a, b] ∧ a.plain = true ∧ b.plain = true ∧ PySem.W.alike a b = true ∧ a ≠ .none ∧ min a.depth b.depth ≤ 100 ∧ Q (.sh (.bool (!PySem.W.dataLt a b)))
theorem pEq_mono : MonoP pEq := fun ds Q Q' h ⟨a, b, e, p, q, d, z⟩ => ⟨a, b, e, p, q, d, h _ z⟩
theorem pNe_mono : MonoP pNe := fun ds Q Q' h ⟨a, b, e, p, q, d, z⟩ => ⟨a, b, e, p, q, d, h _ z⟩
theorem pLt_mono : MonoP pLt := fun ds Q Q' h ⟨a, b, e, p, q, x, y, d, z⟩ => ⟨a, b, e, p, q, x, y, d, h _ z⟩
theorem pGt_mono : MonoP pGt := fun ds Q Q' h ⟨a, b, e, p, q, x, y, d, z⟩ => ⟨a, b, e, p, q, x, y, d, h _ z⟩
theorem pLe_mono : MonoP pLe := fun ds Q Q' h ⟨a, b, e, p, q, x, y, d, z⟩ => ⟨a, b, e, p, q, x, y, d, h _ z⟩
theorem pGe_mono : MonoP pGe := fun ds Q Q' h ⟨a, b, e, p, q, x, y, d, z⟩ => ⟨a, b, e, p, q, x, y, d, h _ z⟩
theorem fin_b {pins : List (Addr × Obj)} {σ : L2.St} {H : Hp} {s : Shared} {Q : VK} {b : Bool} (I : Inv X pins σ H s) (q : Q (.bl b) H) : EP X pins σ Q (.bool b) s := ⟨.bl b, H, I, rfl, q⟩
theorem o_eq (hK : X.K = G.K) (hu : X.A.units + 150 < cLine) : OpR X (compareOp .Eq) (r2P G pEq) := by
  intro pins s σ H x y v u Q I rx ry h'
  obtain ⟨W, ds, hW, hv, a, b, rfl, pa, pb, d, hq⟩ := h'
  obtain ⟨p, q, e, h1, h2⟩ := hv.two
  cases e
  rw [← hK] at h1 h2
  obtain ⟨as, r1⟩ := h1.reads I pa rx
  obtain ⟨bs, r2⟩ := h2.reads I pb ry
  exact PySem.SeqAt.eq_plain r1 r2 pa pb (by omega) (fin_b I (hq _ _ _ .bool))
theorem o_ne (hK : X.K = G.K) (hu : X.A.units + 150 < cLine) : OpR X (compareOp .NotEq) (r2P G pNe) := by
  intro pins s σ H x y v u Q I rx ry h'
  obtain ⟨W, ds, hW, hv, a, b, rfl, pa, pb, d, hq⟩ := h'
  obtain ⟨p, q, e, h1, h2⟩ := hv.two
  cases e
  rw [← hK] at h1 h2
  obtain ⟨as, r1⟩ := h1.reads I pa rx
  obtain ⟨bs, r2⟩ := h2.reads I pb ry
  exact PySem.SeqAt.ne_plain r1 r2 pa pb (by omega) (fin_b I (hq _ _ _ .bool))
theorem o_lt (hK : X.K = G.K) (hu : X.A.units + 150 < cLine) : OpR X (compareOp .Lt) (r2P G pLt) := by
  intro pins s σ H x y v u Q I rx ry h'
  obtain ⟨W, ds, hW, hv, a, b, rfl, pa, pb, al, nn, d, hq⟩ := h'
  obtain ⟨p, q, e, h1, h2⟩ := hv.two
  cases e
  rw [← hK] at h1 h2
  obtain ⟨as, r1⟩ := h1.reads I pa rx
  obtain ⟨bs, r2⟩ := h2.reads I pb ry
  exact PySem.W.lt_data r1 r2 al nn (by omega) (fin_b I (hq _ _ _ .bool))
theorem o_gt (hK : X.K = G.K) (hu : X.A.units + 150 < cLine) : OpR X (compareOp .Gt) (r2P G pGt) := by
  intro pins s σ H x y v u Q I rx ry h'
  obtain ⟨W, ds, hW, hv, a, b, rfl, pa, pb, al, nn, d, hq⟩ := h'
  obtain ⟨p, q, e, h1, h2⟩ := hv.two
  cases e
  rw [← hK] at h1 h2
  obtain ⟨as, r1⟩ := h1.reads I pa rx
  obtain ⟨bs, r2⟩ := h2.reads I pb ry
  exact PySem.W.gt_data r1 r2 al nn (by omega) (fin_b I (hq _ _ _ .bool))
theorem o_le (hK : X.K = G.K) (hu : X.A.units + 150 < cLine) : OpR X (compareOp .LtE) (r2P G pLe) := by
  intro pins s σ H x y v u Q I rx ry h'
  obtain ⟨W, ds, hW, hv, a, b, rfl, pa, pb, al, nn, d, hq⟩ := h'
  obtain ⟨p, q, e, h1, h2⟩ := hv.two
  cases e
  rw [← hK] at h1 h2
  obtain ⟨as, r1⟩ := h1.reads I pa rx
  obtain ⟨bs, r2⟩ := h2.reads I pb ry
  exact PySem.W.le_data r1 r2 al nn (by omega) (fin_b I (hq _ _ _ .bool))
theorem o_ge (hK : X.K = G.K) (hu : X.A.units + 150 < cLine) : OpR X (compareOp .GtE) (r2P G pGe) := by
  intro pins s σ H x y v u Q I rx ry h'
  obtain ⟨W, ds, hW, hv, a, b, rfl, pa, pb, al, nn, d, hq⟩ := h'
  obtain ⟨p, q, e, h1, h2⟩ := hv.two
  cases e
  rw [← hK] at h1 h2
  obtain ⟨as, r1⟩ := h1.reads I pa rx
  obtain ⟨bs, r2⟩ := h2.reads I pb ry
  exact PySem.W.ge_data r1 r2 al nn (by omega) (fin_b I (hq _ _ _ .bool))
/-- a is None -/
def isNo : PyData → Bool
  | .none => true
  | _ => false
def pIsN : PwP := fun ds Q => ∃ a, ds = [a, .none] ∧ Q (.sh (.bool (isNo a)))
def pNotN : PwP := fun ds Q => ∃ a, ds = [a, .none] ∧ Q (.sh (.bool (!isNo a)))
theorem pIsN_mono : MonoP pIsN := fun ds Q Q' h ⟨a, e, q⟩ => ⟨a, e, h _ q⟩
theorem pNotN_mono : MonoP pNotN := fun ds Q Q' h ⟨a, e, q⟩ => ⟨a, e, h _ q⟩
theorem Vw.isNo {W : Av} {H : Hp} {d : PyData} {v : V} (h : Vw G.K W H d v) : decide (v = .non) = isNo d := by
  cases d with
  | none => rw [h.non]; rfl
  | bool b => rw [h.bool]; rfl
  | int b => rw [h.int]; rfl
  | str b => rw [h.str]; rfl
  | list l => obtain ⟨a, xs, e, _⟩ := h.lst; rw [e]; rfl
  | tuple l => obtain ⟨a, xs, e, _⟩ := h.tup; rw [e]; rfl
  | dict l => obtain ⟨z, a, xs, e, _⟩ := h; rw [e]; rfl
theorem o_isN : OpR X (compareOp .Is) (r2P G pIsN) := by
  intro pins s σ H x y v u Q I rx ry h'
  obtain ⟨W, ds, hW, hv, a, rfl, hq⟩ := h'
  obtain ⟨p, q, e, h1, h2⟩ := hv.two
  cases e
  refine op_isN pins s σ H x y v u Q I rx ry ⟨h2.non, ?_⟩
  rw [h1.isNo]
  exact hq _ _ _ .bool
theorem o_notN : OpR X (compareOp .IsNot) (r2P G pNotN) := by
  intro pins s σ H x y v u Q I rx ry h'
  obtain ⟨W, ds, hW, hv, a, rfl, hq⟩ := h'
  obtain ⟨p, q, e, h1, h2⟩ := hv.two
  cases e
  refine op_notN pins s σ H x y v u Q I rx ry ⟨h2.non, ?_⟩
  rw [h1.isNo]
  exact hq _ _ _ .bool
/-- a in b -/
def inD (d : PyData) : PyData → Option Bool
  | .list l => if PyData.plainAll l && d.plain && decide (min (PyData.depthAll l) d.depth ≤ 100) then some (l.any fun y => PyData.eqv y d) else none
  | .tuple l => if PyData.plainAll l && d.plain && decide (min (PyData.depthAll l) d.depth ≤ 100) then some (l.any fun y => PyData.eqv y d) else none
  | .str x => match d with
    | .str y => some (!(Builtin.Str.occurrences x y 0 x.length 1).isEmpty)
    | _ => none
  | _ => none
def pIn : PwP := fun ds Q => ∃ a b k, ds = [a, b] ∧ inD a b = some k ∧ Q (.sh (.bool k))
def pNin : PwP := fun ds Q => ∃ a b k, ds = [a, b] ∧ inD a b = some k ∧ Q (.sh (.bool (!k)))
theorem pIn_mono : MonoP pIn := fun ds Q Q' h ⟨a, b, k, e, z, q⟩ => ⟨a, b, k, e, z, h _ q⟩
theorem pNin_mono : MonoP pNin := fun ds Q Q' h ⟨a, b, k, e, z, q⟩ => ⟨a, b, k, e, z, h _ q⟩
theorem o_in (hK : X.K = G.K) (hu : X.A.units + 150 < cLine) : OpR X (compareOp .In) (r2P G pIn) := by
  intro pins s σ H x y v u Q I rx ry h'
  obtain ⟨W, ds, hW, hv, a, b, k, rfl, hi, hq⟩ := h'
  obtain ⟨p, q, e, h1, h2⟩ := hv.two
  cases e
  unfold inD at hi
  split at hi
  · split at hi
    · rename_i l c
      simp only [Bool.and_eq_true, decide_eq_true_eq] at c
      rw [← hK] at h1 h2
      obtain ⟨as, r1⟩ := h1.reads I c.1.2 rx
      obtain ⟨bs, r2⟩ := h2.reads I (by simpa [PyData.plain] using c.1.1) ry
      cases hi
      exact PySem.SeqAt.in_list_data r2 r1 c.1.1 c.1.2 (by omega) (fin_b I (hq _ _ _ .bool))
    · cases hi
  · split at hi
    · rename_i l c
      simp only [Bool.and_eq_true, decide_eq_true_eq] at c
      rw [← hK] at h1 h2
      obtain ⟨as, r1⟩ := h1.reads I c.1.2 rx
      obtain ⟨bs, r2⟩ := h2.reads I (by simpa [PyData.plain] using c.1.1) ry
      cases hi
      exact PySem.SeqAt.in_tuple_data r2 r1 c.1.1 c.1.2 (by omega) (fin_b I (hq _ _ _ .bool))
    · cases hi
  · split at hi
    · cases hi
      exact op_in_str pins s σ H x y v u Q I rx ry ⟨_, _, h1.str, h2.str, hq _ _ _ .bool⟩
    · cases hi
  · cases hi
theorem o_nin (hK : X.K = G.K) (hu : X.A.units + 150 < cLine) : OpR X (compareOp .NotIn) (r2P G pNin) := by
  intro pins s σ H x y v u Q I rx ry h'
  obtain ⟨W, ds, hW, hv, a, b, k, rfl, hi, hq⟩ := h'
  obtain ⟨p, q, e, h1, h2⟩ := hv.two
  cases e
  unfold inD at hi
  split at hi
  · split at hi
    · rename_i l c
      simp only [Bool.and_eq_true, decide_eq_true_eq] at c
      rw [← hK] at h1 h2
      obtain ⟨as, r1⟩ := h1.reads I c.1.2 rx
      obtain ⟨bs, r2⟩ := h2.reads I (by simpa [PyData.plain] using c.1.1) ry
      cases hi
      exact PySem.SeqAt.notIn_list_data r2 r1 c.1.1 c.1.2 (by omega) (fin_b I (hq _ _ _ .bool))
    · cases hi
  · split at hi
    · rename_i l c
      simp only [Bool.and_eq_true, decide_eq_true_eq] at c
      rw [← hK] at h1 h2
      obtain ⟨as, r1⟩ := h1.reads I c.1.2 rx
      obtain ⟨bs, r2⟩ := h2.reads I (by simpa [PyData.plain] using c.1.1) ry
      cases hi
      exact PySem.SeqAt.notIn_tuple_data r2 r1 c.1.1 c.1.2 (by omega) (fin_b I (hq _ _ _ .bool))
    · cases hi
  · split at hi
    · cases hi
      exact op_notIn_str pins s σ H x y v u Q I rx ry ⟨_, _, h1.str, h2.str, hq _ _ _ .bool⟩
    · cases hi
  · cases hi
/-- a[i] -/
def pIx : PwP := fun ds Q => match ds with
  | [.list l, .int i] => ∃ d, atI l i = some d ∧ Q (.sh d)
  | [.tuple l, .int i] => ∃ d, atI l i = some d ∧ Q (.sh d)
  | [.str z, .int i] => ∃ c, z.length ≤ sizeLine ∧ atI z.cps.toList i = some c ∧ Q (.sh (.str ⟨#[c]⟩))
  | _ => False
theorem pIx_mono : MonoP pIx := by
  intro ds Q Q' h q
  unfold pIx at q ⊢
  split at q
  · exact let ⟨d, e, q⟩ := q; ⟨d, e, h _ q⟩
  · exact let ⟨d, e, q⟩ := q; ⟨d, e, h _ q⟩
  · exact let ⟨d, z, e, q⟩ := q; ⟨d, z, e, h _ q⟩
  · exact q
theorem HasL.atI {K : PySem.W.Frag} {W : Av} {H : Hp} {l : List PyData} {xs : List V} {i : Int} {d : PyData} (h : HasL K W H l xs) (e : L2.atI l i = some d) : ∃ v, L2.atI xs i = some v ∧ Has K W H d v := by
  unfold L2.atI at e ⊢
  rw [h.length]
  cases q : ixN l.length i with
  | none => rw [q] at e; cases e
  | some j =>
    rw [q] at e
    exact h.get (i := j) e
theorem o_ix (hK : X.K = G.K) : IxR X (r2P G pIx) := by
  intro ve sl pins s σ H x y v u Q I rx ry h' hsub
  obtain ⟨W, ds, hW, hv, hq⟩ := h'
  unfold pIx at hq
  split at hq
  · obtain ⟨a, b, e, h1, h2⟩ := hv.two
    cases e
    obtain ⟨d, ed, hq⟩ := hq
    obtain ⟨p, xs, e1, t1, l1, z1⟩ := h1.lst
    obtain ⟨w, ew, hw⟩ := l1.atI ed
    exact ix_list ve sl pins s σ H x y v u Q I rx ry ⟨p, xs, _, w, e1, h2.int, SqL.of t1, ew, hq _ _ _ (.same hw)⟩ hsub
  · obtain ⟨a, b, e, h1, h2⟩ := hv.two
    cases e
    obtain ⟨d, ed, hq⟩ := hq
    obtain ⟨p, xs, e1, t1, n1, l1, z1⟩ := h1.tup
    obtain ⟨w, ew, hw⟩ := l1.atI ed
    exact ix_tup ve sl pins s σ H x y v u Q I rx ry ⟨p, xs, _, w, e1, h2.int, SqT.of t1, ew, hq _ _ _ (.same hw)⟩ hsub
  · obtain ⟨a, b, e, h1, h2⟩ := hv.two
    cases e
    obtain ⟨c, z, ec, hq⟩ := hq
    exact ix_str ve sl pins s σ H x y v u Q I rx ry ⟨_, _, c, h1.str, h2.int, z, ec, hq _ _ _ .str⟩ hsub
  · exact hq.elim
end
end Pd

/-! Pd8: built-in functions over data. -/
namespace Pd
open PySem L2

theorem HasL.intsV {K : PySem.W.Frag} {W : Av} {H : Hp} : ∀ {ns : List Int} {xs : List V}, HasL K W H (ns.map .int) xs → xs = ns.map .int
  | [], xs, h => by unfold HasL at h; exact h
  | n :: ns, xs, h => by
    change HasL K W H (.int n :: ns.map .int) xs at h
    unfold HasL at h
    obtain ⟨x, r, rfl, h1, h2⟩ := h
    unfold Has at h1
    rw [h1, HasL.intsV h2]
    rfl
theorem HasL.boolsV {K : PySem.W.Frag} {W : Av} {H : Hp} : ∀ {ns : List Bool} {xs : List V}, HasL K W H (ns.map .bool) xs → xs = ns.map .bl
  | [], xs, h => by unfold HasL at h; exact h
  | n :: ns, xs, h => by
    change HasL K W H (.bool n :: ns.map .bool) xs at h
    unfold HasL at h
    obtain ⟨x, r, rfl, h1, h2⟩ := h
    unfold Has at h1
    rw [h1, HasL.boolsV h2]
    rfl
section
variable {G : Wd} {X : Cx}
/-- len(x) -/
def pLen : PwP := fun ds Q => match ds with
  | [.list l] => Q (.sh (.int l.length))
  | [.tuple l] => Q (.sh (.int l.length))
  | [.str z] => z.length ≤ sizeLine ∧ Q (.sh (.int z.length))
  | _ => False
theorem pLen_mono : MonoP pLen := by
  intro ds Q Q' h q
  unfold pLen at q ⊢
  split at q
  · exact h _ q
  · exact h _ q
  · exact ⟨q.1, h _ q.2⟩
  · exact q
theorem c_len : CallR X (.builtin "len") (rP G pLen) := by
  intro pins s σ H xs us Q I rx h'
  obtain ⟨W, ds, hW, hv, hq⟩ := h'
  unfold pLen at hq
  split at hq
  · obtain ⟨a, rfl, h1⟩ := hv.one
    obtain ⟨p, ys, e1, t1, l1, z1⟩ := h1.lst
    subst e1
    refine call_len_seq pins s σ H _ us Q I rx ⟨p, ys, rfl, .inl (SqL.of t1), ?_⟩
    rw [l1.length]
    exact hq _ _ _ .int
  · obtain ⟨a, rfl, h1⟩ := hv.one
    obtain ⟨p, ys, e1, t1, n1, l1, z1⟩ := h1.tup
    subst e1
    refine call_len_seq pins s σ H _ us Q I rx ⟨p, ys, rfl, .inr (SqT.of t1), ?_⟩
    rw [l1.length]
    exact hq _ _ _ .int
  · obtain ⟨a, rfl, h1⟩ := hv.one
    exact call_len_str pins s σ H _ us Q I rx ⟨_, by rw [h1.str], hq.1, hq.2 _ _ _ .int⟩
  · exact hq.elim
/-- int(x) -/
def pInt : PwP := fun ds Q => match ds with
  | [.int i] => Q (.sh (.int i))
  | [.bool b] => Q (.sh (.int (if b then 1 else 0)))
  | [.str z] => ∃ n, PySem.intText? z = some n ∧ z.length ≤ 640 ∧ Q (.sh (.int n))
  | _ => False
theorem pInt_mono : MonoP pInt := by
  intro ds Q Q' h q
  unfold pInt at q ⊢
  split at q
  · exact h _ q
  · exact h _ q
  · exact let ⟨n, a, b, q⟩ := q; ⟨n, a, b, h _ q⟩
  · exact q
theorem c_int : CallR X (.type "int") (rP G pInt) := by
  intro pins s σ H xs us Q I rx h'
  obtain ⟨W, ds, hW, hv, hq⟩ := h'
  unfold pInt at hq
  split at hq
  · obtain ⟨a, rfl, h1⟩ := hv.one
    exact call_int1 pins s σ H _ us Q I rx (.inl ⟨_, by rw [h1.int], hq _ _ _ .int⟩)
  · obtain ⟨a, rfl, h1⟩ := hv.one
    exact call_int1 pins s σ H _ us Q I rx (.inr ⟨_, by rw [h1.bool], hq _ _ _ .int⟩)
  · obtain ⟨a, rfl, h1⟩ := hv.one
    obtain ⟨n, e, z, q⟩ := hq
    exact call_int_str pins s σ H _ us Q I rx ⟨_, n, by rw [h1.str], e, z, q _ _ _ .int⟩
  · exact hq.elim
/-- str(n), bool(n), abs(n) -/
def pStr : PwP := fun ds Q => match ds with
  | [.int i] => i.natAbs.log2 < 1920 ∧ Q (.sh (.str (toString i)))
  | _ => False
theorem pStr_mono : MonoP pStr := by
  intro ds Q Q' h q
  unfold pStr at q ⊢
  split at q
  · exact ⟨q.1, h _ q.2⟩
  · exact q
theorem c_str : CallR X (.type "str") (rP G pStr) := by
  intro pins s σ H xs us Q I rx h'
  obtain ⟨W, ds, hW, hv, hq⟩ := h'
  unfold pStr at hq
  split at hq
  · obtain ⟨a, rfl, h1⟩ := hv.one
    exact call_str_int pins s σ H _ us Q I rx ⟨_, by rw [h1.int], hq.1, hq.2 _ _ _ .str⟩
  · exact hq.elim
def pAbs : PwP := fun ds Q => ∃ i, ds = [.int i] ∧ Q (.sh (.int (if i < 0 then -i else i)))
theorem pAbs_mono : MonoP pAbs := fun ds Q Q' h ⟨i, e, q⟩ => ⟨i, e, h _ q⟩
theorem c_abs : CallR X (.builtin "abs") (rP G pAbs) := by
  intro pins s σ H xs us Q I rx h'
  obtain ⟨W, ds, hW, hv, i, rfl, hq⟩ := h'
  obtain ⟨a, rfl, h1⟩ := hv.one
  exact call_abs pins s σ H _ us Q I rx ⟨i, by rw [h1.int], hq _ _ _ .int⟩
/-- tuple(x), list(x) -/
def pTup : PwP := fun ds Q => match ds with
  | [.list l] => Q (.sh (.tuple l))
  | [.tuple l] => Q (.sh (.tuple l))
  | _ => False
def pLst : PwP := fun ds Q => match ds with
  | [.list l] => Q (.ol l)
  | [.tuple l] => Q (.ol l)
  | _ => False
theorem pTup_mono : MonoP pTup := by
  intro ds Q Q' h q
  unfold pTup at q ⊢
  split at q
  · exact h _ q
  · exact h _ q
  · exact q
theorem pLst_mono : MonoP pLst := by
  intro ds Q Q' h q
  unfold pLst at q ⊢
  split at q
  · exact h _ q
  · exact h _ q
  · exact q
theorem c_tup : CallR X (.type "tuple") (rP G pTup) := by
  intro pins s σ H xs us Q I rx h'
  obtain ⟨W, ds, hW, hv, hq⟩ := h'
  unfold pTup at hq
  split at hq
  · obtain ⟨a, rfl, h1⟩ := hv.one
    obtain ⟨p, ys, e1, t1, l1, z1⟩ := h1.lst
    subst e1
    exact call_tuple_of pins s σ H _ us Q I rx ⟨p, ys, rfl, .inl ⟨SqL.of t1, fun r hr => hq _ _ _ (.tup hW hr z1 l1)⟩⟩
  · obtain ⟨a, rfl, h1⟩ := hv.one
    obtain ⟨p, ys, e1, t1, n1, l1, z1⟩ := h1.tup
    subst e1
    exact call_tuple_of pins s σ H _ us Q I rx ⟨p, ys, rfl, .inr ⟨SqT.of t1, hq _ _ _ (.same (by unfold Has; exact ⟨z1, p, ys, rfl, ⟨t1, n1⟩, l1⟩))⟩⟩
  · exact hq.elim
theorem c_lst : CallR X (.type "list") (rP G pLst) := by
  intro pins s σ H xs us Q I rx h'
  obtain ⟨W, ds, hW, hv, hq⟩ := h'
  unfold pLst at hq
  split at hq
  · obtain ⟨a, rfl, h1⟩ := hv.one
    obtain ⟨p, ys, e1, t1, l1, z1⟩ := h1.lst
    subst e1
    exact call_list_of pins s σ H _ us Q I rx ⟨p, ys, rfl, .inl (SqL.of t1), fun r hr => hq _ _ _ (.lst hW hr z1 l1)⟩
  · obtain ⟨a, rfl, h1⟩ := hv.one
    obtain ⟨p, ys, e1, t1, n1, l1, z1⟩ := h1.tup
    subst e1
    exact call_list_of pins s σ H _ us Q I rx ⟨p, ys, rfl, .inr (SqT.of t1), fun r hr => hq _ _ _ (.lst hW hr z1 l1)⟩
  · exact hq.elim
/-- sum(x) -/
def pSum : PwP := fun ds Q => ∃ ns : List Int, ds = [.list (ns.map .int)] ∧ Q (.sh (.int ns.sum))
theorem pSum_mono : MonoP pSum := fun ds Q Q' h ⟨i, e, q⟩ => ⟨i, e, h _ q⟩
theorem c_sum (hK : X.K = G.K) (hc : X.calm = true) : CallR X (.builtin "sum") (rP G pSum) := by
  intro pins s σ H xs us Q I rx h'
  obtain ⟨W, ds, hW, hv, ns, rfl, hq⟩ := h'
  obtain ⟨a, rfl, h1⟩ := hv.one
  obtain ⟨p, ys, e1, t1, l1, z1⟩ := h1.lst
  subst e1
  rw [l1.intsV] at t1
  exact cr_sum hc pins s σ H _ us Q I rx ⟨p, ns, rfl, SqL.of t1, hq _ _ _ .int⟩
/-- min, max: two ints, or a list or tuple of alike things -/
def pMin : PwP := fun ds Q => match ds with
  | [.int i, .int j] => Q (.sh (.int (if j < i then j else i)))
  | [.list (d :: l)] => PySem.W.AlikeAll (d :: l) ∧ PyData.plainAll (d :: l) = true ∧ PyData.depthAll (d :: l) ≤ 100 ∧ Q (.sh (PySem.W.minD d l))
  | [.tuple (d :: l)] => PySem.W.AlikeAll (d :: l) ∧ PyData.plainAll (d :: l) = true ∧ PyData.depthAll (d :: l) ≤ 100 ∧ Q (.sh (PySem.W.minD d l))
  | _ => False
def pMax : PwP := fun ds Q => match ds with
  | [.int i, .int j] => Q (.sh (.int (if j > i then j else i)))
  | [.list (d :: l)] => PySem.W.AlikeAll (d :: l) ∧ PyData.plainAll (d :: l) = true ∧ PyData.depthAll (d :: l) ≤ 100 ∧ Q (.sh (PySem.W.maxD d l))
  | [.tuple (d :: l)] => PySem.W.AlikeAll (d :: l) ∧ PyData.plainAll (d :: l) = true ∧ PyData.depthAll (d :: l) ≤ 100 ∧ Q (.sh (PySem.W.maxD d l))
  | _ => False
theorem pMin_mono : MonoP pMin := by
  intro ds Q Q' h q
  unfold pMin at q ⊢
  split at q
  · exact h _ q
  · exact let ⟨a, b, c, q⟩ := q; ⟨a, b, c, h _ q⟩
  · exact let ⟨a, b, c, q⟩ := q; ⟨a, b, c, h _ q⟩
  · exact q
theorem pMax_mono : MonoP pMax := by
  intro ds Q Q' h q
  unfold pMax at q ⊢
  split at q
  · exact h _ q
  · exact let ⟨a, b, c, q⟩ := q; ⟨a, b, c, h _ q⟩
  · exact let ⟨a, b, c, q⟩ := q; ⟨a, b, c, h _ q⟩
  · exact q
theorem vals_ref1 {a : Addr} {us : List Value} (r : Vals [.ref a] us) : us = [.ref a] := by
  obtain ⟨u, e, h⟩ := vals1 r
  subst e
  cases h
  rfl
/-- the one that was found, back in the abstract heap -/
theorem found_ok {pins : List (Addr × Obj)} {σ : L2.St} {H : Hp} {s : Shared} {W : Av} {l : List PyData} {ys : List V} {its : List Value} {h' : Heap} {tk : Nat} {d : PyData} {i : Nat} {v : Value} {bs : List Addr} (I : Inv X pins σ H s) (hK : X.K = G.K) (l1 : HasL G.K W H l ys) (rv : Vals ys its)
    (hp : PyData.plainAll l = true) (k : ∀ b o, s.heap.get? b = some o → h'.get? b = some o) (e : its[i]? = some v) (rd : Reads h' v d bs) : ∃ x, Inv X pins σ H { s with heap := h', toks := tk } ∧ RelV x v ∧ Has G.K W H d x := by
  have hi : i < ys.length := by
    rw [rv.length]
    exact lt_of_get e
  obtain ⟨u, e1, r1⟩ := rv.get (i := i) (x := ys[i]) (by simp [hi])
  rw [e] at e1
  cases e1
  obtain ⟨d', ed, hd⟩ := l1.get' (i := i) (x := ys[i]) (by simp [hi])
  have pd : d'.plain = true := PySem.W.plain_mem hp (List.mem_of_getElem? ed)
  have I' := I.kept (t' := tk) k
  have hd' := hd
  rw [← hK] at hd'
  obtain ⟨as, rd'⟩ := Has.reads I' d' _ _ pd hd' r1
  have := PySem.SeqAt.plain_unique d' d v as bs pd rd' rd
  subst this
  exact ⟨_, I', r1, hd⟩
theorem c_min (hK : X.K = G.K) (hc : X.calm = true) (hu : X.A.units + 150 < cLine) : CallR X (.builtin "min") (rP G pMin) := by
  intro pins s σ H xs us Q I rx h'
  obtain ⟨W, ds, hW, hv, hq⟩ := h'
  unfold pMin at hq
  split at hq
  · obtain ⟨a, b, rfl, h1, h2⟩ := hv.two
    exact call_min2 hc pins s σ H _ us Q I rx ⟨_, _, by rw [h1.int, h2.int], hq _ _ _ .int⟩
  · obtain ⟨a, rfl, h1⟩ := hv.one
    obtain ⟨p, ys, e1, t1, l1, z1⟩ := h1.lst
    subst e1
    obtain ⟨al, pl, dp, hq⟩ := hq
    obtain ⟨its, rv, hl, _⟩ := I.list (SqL.of t1)
    have l1' := l1
    rw [← hK] at l1'
    obtain ⟨as, ra⟩ := HasL.reads I _ _ _ pl l1' rv
    rw [vals_ref1 rx]
    refine PySem.W.min_list_data (I.ok.hd hc) hl.isList (by simpa using ra) al (by omega) fun i v h' tk bs e rd k => ?_
    obtain ⟨x, I', rx', hx⟩ := found_ok (tk := tk) I hK l1 rv pl k (by simpa using e) rd
    exact ⟨x, H, I', rx', hq _ _ _ (.same hx)⟩
  · obtain ⟨a, rfl, h1⟩ := hv.one
    obtain ⟨p, ys, e1, t1, n1, l1, z1⟩ := h1.tup
    subst e1
    obtain ⟨al, pl, dp, hq⟩ := hq
    obtain ⟨its, rv, hl, _⟩ := I.tuple (SqT.of t1)
    have l1' := l1
    rw [← hK] at l1'
    obtain ⟨as, ra⟩ := HasL.reads I _ _ _ pl l1' rv
    rw [vals_ref1 rx]
    refine PySem.W.min_tuple_data (I.ok.hd hc) hl (by simpa using ra) al (by omega) fun i v h' tk bs e rd k => ?_
    obtain ⟨x, I', rx', hx⟩ := found_ok (tk := tk) I hK l1 rv pl k (by simpa using e) rd
    exact ⟨x, H, I', rx', hq _ _ _ (.same hx)⟩
  · exact hq.elim
theorem c_max (hK : X.K = G.K) (hc : X.calm = true) (hu : X.A.units + 150 < cLine) : CallR X (.builtin "max") (rP G pMax) := by
  intro pins s σ H xs us Q I rx h'
  obtain ⟨W, ds, hW, hv, hq⟩ := h'
  unfold pMax at hq
  split at hq
  · obtain ⟨a, b, rfl, h1, h2⟩ := hv.two
    exact call_max2 hc pins s σ H _ us Q I rx ⟨_, _, by rw [h1.int, h2.int], hq _ _ _ .int⟩
  · obtain ⟨a, rfl, h1⟩ := hv.one
    obtain ⟨p, ys, e1, t1, l1, z1⟩ := h1.lst
    subst e1
    obtain ⟨al, pl, dp, hq⟩ := hq
    obtain ⟨its, rv, hl, _⟩ := I.list (SqL.of t1)
    have l1' := l1
    rw [← hK] at l1'
    obtain ⟨as, ra⟩ := HasL.reads I _ _ _ pl l1' rv
    rw [vals_ref1 rx]
    refine PySem.W.max_list_data (I.ok.hd hc) hl.isList (by simpa using ra) al (by omega) fun i v h' tk bs e rd k => ?_
    obtain ⟨x, I', rx', hx⟩ := found_ok (tk := tk) I hK l1 rv pl k (by simpa using e) rd
    exact ⟨x, H, I', rx', hq _ _ _ (.same hx)⟩
  · obtain ⟨a, rfl, h1⟩ := hv.one
    obtain ⟨p, ys, e1, t1, n1, l1, z1⟩ := h1.tup
    subst e1
    obtain ⟨al, pl, dp, hq⟩ := hq
    obtain ⟨its, rv, hl, _⟩ := I.tuple (SqT.of t1)
    have l1' := l1
    rw [← hK] at l1'
    obtain ⟨as, ra⟩ := HasL.reads I _ _ _ pl l1' rv
    rw [vals_ref1 rx]
    refine PySem.W.max_tuple_data (I.ok.hd hc) hl (by simpa using ra) al (by omega) fun i v h' tk bs e rd k => ?_
    obtain ⟨x, I', rx', hx⟩ := found_ok (tk := tk) I hK l1 rv pl k (by simpa using e) rd
    exact ⟨x, H, I', rx', hq _ _ _ (.same hx)⟩
  · exact hq.elim
/-- any, all of lists of bools -/
def pAny : PwP := fun ds Q => ∃ bs : List Bool, ds = [.list (bs.map .bool)] ∧ Q (.sh (.bool (bs.any id)))
def pAll : PwP := fun ds Q => ∃ bs : List Bool, ds = [.list (bs.map .bool)] ∧ Q (.sh (.bool (bs.all id)))
theorem pAny_mono : MonoP pAny := fun ds Q Q' h ⟨i, e, q⟩ => ⟨i, e, h _ q⟩
theorem pAll_mono : MonoP pAll := fun ds Q Q' h ⟨i, e, q⟩ => ⟨i, e, h _ q⟩
theorem c_any (hK : X.K = G.K) (hc : X.calm = true) : CallR X (.builtin "any") (rP G pAny) := by
  intro pins s σ H xs us Q I rx h'
  obtain ⟨W, ds, hW, hv, ns, rfl, hq⟩ := h'
  obtain ⟨a, rfl, h1⟩ := hv.one
  obtain ⟨p, ys, e1, t1, l1, z1⟩ := h1.lst
  subst e1
  rw [l1.boolsV] at t1
  exact cr_any hc pins s σ H _ us Q I rx ⟨p, ns, rfl, SqL.of t1, hq _ _ _ .bool⟩
theorem c_all (hK : X.K = G.K) (hc : X.calm = true) : CallR X (.builtin "all") (rP G pAll) := by
  intro pins s σ H xs us Q I rx h'
  obtain ⟨W, ds, hW, hv, ns, rfl, hq⟩ := h'
  obtain ⟨a, rfl, h1⟩ := hv.one
  obtain ⟨p, ys, e1, t1, l1, z1⟩ := h1.lst
  subst e1
  rw [l1.boolsV] at t1
  exact cr_all hc pins s σ H _ us Q I rx ⟨p, ns, rfl, SqL.of t1, hq _ _ _ .bool⟩
/-- repr(x) -/
def pRepr : PwP := fun ds Q => ∃ d, ds = [d] ∧ d.plain = true ∧ d.showable = true ∧ d.depth ≤ 100 ∧ d.shown.length ≤ sizeLine ∧ Q (.sh (.str d.shown))
theorem pRepr_mono : MonoP pRepr := fun ds Q Q' h ⟨i, e, a, b, c, d, q⟩ => ⟨i, e, a, b, c, d, h _ q⟩
mutual
theorem plain_noDict : ∀ d : PyData, d.plain = true → d.hasDict = false
  | .none, _ => by simp only [PyData.hasDict]
  | .bool _, _ => by simp only [PyData.hasDict]
  | .int _, _ => by simp only [PyData.hasDict]
  | .str _, _ => by simp only [PyData.hasDict]
  | .list l, h => by
    simp only [PyData.hasDict]
    exact plainAll_noDict l (by simpa [PyData.plain] using h)
  | .tuple l, h => by
    simp only [PyData.hasDict]
    exact plainAll_noDict l (by simpa [PyData.plain] using h)
  | .dict _, h => by cases h
theorem plainAll_noDict : ∀ l : List PyData, PyData.plainAll l = true → PyData.hasDictAll l = false
  | [], _ => rfl
  | d :: ds, h => by
    have h' : d.plain = true ∧ PyData.plainAll ds = true := by simpa [PyData.plainAll] using h
    simp only [PyData.hasDictAll, plain_noDict d h'.1, plainAll_noDict ds h'.2, Bool.or_false]
end
theorem c_repr (hK : X.K = G.K) (hg : X.A.guards = some []) (hu : X.A.units + 150 < cLine) : CallR X (.builtin "repr") (rP G pRepr) := by
  intro pins s σ H xs us Q I rx h'
  obtain ⟨W, ds, hW, hv, d, rfl, pl, sw, dp, sz, hq⟩ := h'
  obtain ⟨a, rfl, h1⟩ := hv.one
  obtain ⟨u, rfl, r1⟩ := vals1 rx
  rw [← hK] at h1
  obtain ⟨as, rd⟩ := h1.reads I pl r1
  have fin : ∀ (h' : Heap) (t : Tok) (tk : Nat), (∀ b o, s.heap.get? b = some o → h'.get? b = some o) → EP X pins σ Q (.str d.shown t) { s with heap := h', toks := tk } := fun h' t tk k =>
    ⟨.str d.shown, H, I.kept (t' := tk) k, ⟨t, rfl⟩, hq _ _ _ .str⟩
  cases rd with
  | none => exact PySem.P.repr_of_none (fin s.heap _ _ fun _ _ h => h)
  | bool b => exact PySem.P.repr_of_bool (fin s.heap _ _ fun _ _ h => h)
  | int i t => exact PySem.P.repr_of_int (by simpa [PyData.showable] using sw) (fin s.heap _ _ fun _ _ h => h)
  | str x t => exact PySem.P.repr_of_str (fin s.heap _ _ fun _ _ h => h) (by simpa only [PyData.shown] using sz)
  | list g1 g2 g3 g4 =>
    exact repr_of_reads' (.list g1 g2 g3 g4) sw (fun e => by rw [plain_noDict _ pl] at e; cases e) hg (by omega) (fun _ _ h => h) (fun h' u tk k => fin h' u tk k) sz
  | tuple g1 g2 g3 g4 =>
    exact repr_of_reads' (.tuple g1 g2 g3 g4) sw (fun e => by rw [plain_noDict _ pl] at e; cases e) hg (by omega) (fun _ _ h => h) (fun h' u tk k => fin h' u tk k) sz
  | dict h1 h2 h3 h4 h5 => cases pl
end
end Pd

/-! Pd9: targets, loops, comprehensions. -/
namespace Pd
open PySem L2

abbrev WI := List Sl → XQ → (List PyData → List (Nat × List PyData) → List Sl → Prop) → Prop
abbrev WTg := PyData → List Sl → (List Sl → Prop) → Prop
def MonoI (w : WI) : Prop := ∀ ρ xq Q Q', (∀ ds us ρ', Q ds us ρ' → Q' ds us ρ') → w ρ xq Q → w ρ xq Q'
def MonoTg (w : WTg) : Prop := ∀ d ρ Q Q', (∀ ρ', Q ρ' → Q' ρ') → w d ρ Q → w d ρ Q'
/-! ### targets -/
/-- all names but those at ix stand -/
def But (ix : List Nat) (σ σ' : L2.St) : Prop := σ'.length = σ.length ∧ ∀ j, j ∉ ix → σ'[j]? = σ[j]?
def tTg (G : Wd) (ix : List Nat) (w : WTg) : TG := fun v σ H Q => ∃ Ha E Fa ρ F d, St G Ha E Fa σ H ρ F ∧ Has G.K (Vo E F) H d v ∧
  w d ρ fun ρ' => ∀ σ' F', St G Ha E Fa σ' H ρ' F' → (∀ a, InF F' a → InF F a) → But ix σ σ' → Q σ' H
def tTgs (G : Wd) (ix : List Nat) (w : List PyData → List Sl → (List Sl → Prop) → Prop) : TGs := fun vs σ H Q => ∃ Ha E Fa ρ F ds, St G Ha E Fa σ H ρ F ∧ HasL G.K (Vo E F) H ds vs ∧
  w ds ρ fun ρ' => ∀ σ' F', St G Ha E Fa σ' H ρ' F' → (∀ a, InF F' a → InF F a) → But ix σ σ' → Q σ' H
def nameT (i : Nat) : WTg := fun d ρ Q => ltB i ρ.length ∧ Q (ρ.set i (.sh d))
def setsT : List Nat → List PyData → List Sl → (List Sl → Prop) → Prop
  | [], [], ρ, Q => Q ρ
  | i :: is, d :: ds, ρ, Q => ltB i ρ.length ∧ setsT is ds (ρ.set i (.sh d)) Q
  | _, _, _, _ => False
def tupT (is : List Nat) : WTg := fun d ρ Q => ∃ ds, d = .tuple ds ∧ ds.length = is.length ∧ setsT is ds ρ Q
theorem nameT_mono {i : Nat} : MonoTg (nameT i) := fun d ρ Q Q' h q => ⟨q.1, h _ q.2⟩
theorem setsT_mono : ∀ {is : List Nat} {ds : List PyData} {ρ : List Sl} {Q Q' : List Sl → Prop}, (∀ ρ', Q ρ' → Q' ρ') → setsT is ds ρ Q → setsT is ds ρ Q'
  | [], [], ρ, Q, Q', h, q => h _ q
  | i :: is, d :: ds, ρ, Q, Q', h, q => ⟨q.1, setsT_mono h q.2⟩
  | [], _ :: _, ρ, Q, Q', h, q => q.elim
  | _ :: _, [], ρ, Q, Q', h, q => q.elim
theorem tupT_mono {is : List Nat} : MonoTg (tupT is) := fun d ρ Q Q' h ⟨ds, e, l, q⟩ => ⟨ds, e, l, setsT_mono h q⟩
section
variable {G : Wd} {T : Xd} {Wx : WX} {X : Cx} {Ha : Hp} {E : Av} {Fa : Fo} {σ : L2.St} {H H' : Hp} {ρ : List Sl} {F F' : Fo} {xq : XQ}
theorem inF_drop {i : Nat} {a : Addr} (h : InF (updF F i []) a) : InF F a := by
  rcases inF_upd h with h | ⟨j, _, h⟩
  · cases h
  · exact ⟨j, h⟩
theorem St.name {i : Nat} {d : PyData} {v : V} (S : St G Ha E Fa σ H ρ F) (h : Has G.K (Vo E F) H d v) (hi : i < ρ.length) : St G Ha E Fa (σ.set i (some v)) H (ρ.set i (.sh d)) (updF F i []) :=
  St.asg (r := .sh d) (f := []) S.orNil hi ⟨rfl, Has.mv ⟨fun _ _ q _ => q, fun a q => .inl (q.imp (fun q => q.elim id fun q => (by cases q)) id)⟩ _ _ h⟩ (fun a h => (by cases h)) (fun a h => (by cases h))
theorem Has.drop {i : Nat} {d : PyData} {v : V} (h : Has G.K (Vo E F) H d v) : Has G.K (Vo E (updF F i [])) H d v :=
  Has.mv ⟨fun _ _ q _ => q, fun a q => .inl (q.imp id inF_drop)⟩ _ _ h
theorem HasL.drop' {i : Nat} {d : List PyData} {v : List V} (h : HasL G.K (Vo E F) H d v) : HasL G.K (Vo E (updF F i [])) H d v :=
  HasL.mv ⟨fun _ _ q _ => q, fun a q => .inl (q.imp id inF_drop)⟩ _ _ h
theorem pg_nameT {x : Str} {i : Nat} {pos : Pos} (hN : X.N.Nodup) (hi : X.N[i]? = some x) (hx : Loc X.env.scope x) (hf : X.fn x = true ∨ X.env.scope.names.lookup x = some .local) : PG X (.Name x pos) (tTg G [i] (nameT i)) := by
  refine ⟨fun pins s σ H v u Q I r h => ?_⟩
  obtain ⟨Ha, E, Fa, ρ, F, d, S, hd, l, q⟩ := h
  exact (pg_name hN hi hx hf).run pins s σ H v u Q I r (q _ _ (S.name hd (ltB.lt l)) (fun a => inF_drop) ⟨List.length_set, fun j hj => List.getElem?_set_ne fun e => hj (by rw [e]; exact List.mem_singleton.mpr rfl)⟩)
theorem pgs_nilT : PGs X [] (tTgs G [] (setsT [])) := by
  refine ⟨fun pins s σ H vs us Q I r h => ?_⟩
  obtain ⟨Ha, E, Fa, ρ, F, ds, S, hd, q⟩ := h
  cases ds with
  | nil =>
    refine pgs_nil.run pins s σ H vs us Q I r ⟨?_, q _ _ S (fun a h => h) ⟨rfl, fun _ _ => rfl⟩⟩
    unfold HasL at hd
    exact hd
  | cons d ds => exact q.elim
theorem pgs_consT {e : Expr} {es : List Expr} {i : Nat} {is : List Nat} (h1 : PG X e (tTg G [i] (nameT i))) (h2 : PGs X es (tTgs G is (setsT is))) (hs : (assignEach (e :: es) X.env).map (·.2) = assign e X.env :: (assignEach es X.env).map (·.2)) : PGs X (e :: es) (tTgs G (i :: is) (setsT (i :: is))) := by
  refine ⟨fun pins s σ H vs us Q I r h => ?_⟩
  obtain ⟨Ha, E, Fa, ρ, F, ds, S, hd, q⟩ := h
  cases ds with
  | nil => exact q.elim
  | cons d ds =>
    unfold HasL at hd
    obtain ⟨x, xr, rfl, hx, hr⟩ := hd
    obtain ⟨l, q⟩ := q
    refine (pgs_cons h1 h2 hs).run pins s σ H _ us Q I r ⟨x, xr, rfl, Ha, E, Fa, ρ, F, d, S, hx, l, fun σ' F' S' sub bt => ?_⟩
    exact ⟨Ha, E, Fa, _, F', ds, S', HasL.mv ⟨fun _ _ q _ => q, fun a q => .inl (q.imp id (sub a))⟩ _ _ hr, setsT_mono (fun ρ' q σ2 F2 S2 sub2 bt2 => q σ2 F2 S2 (fun a h => sub a (sub2 a h)) ⟨bt2.1.trans bt.1, fun j hj => (bt2.2 j fun z => hj (List.mem_cons_of_mem _ z)).trans (bt.2 j fun z => hj (by rw [List.mem_singleton.mp z]; exact List.mem_cons_self))⟩) q⟩
theorem pg_tupT {es : List Expr} {k : Nat} {pos : Pos} {is : List Nat} (hc : X.calm = true) (hK : X.K = G.K) (h : PGs X es (tTgs G is (setsT is))) (hn : (assignEach es X.env).length = is.length) (hst : (assignEach es X.env).findIdx? (·.1) = none) : PG X (.Tuple es k pos) (tTg G is (tupT is)) := by
  refine ⟨fun pins s σ H v u Q I r h' => ?_⟩
  obtain ⟨Ha, E, Fa, ρ, F, d, S, hd, ds, rfl, l, q⟩ := h'
  unfold Has at hd
  obtain ⟨z, a, xs, rfl, h1, h2⟩ := hd
  exact (pg_tup hc h hn hst).run pins s σ H _ u Q I r ⟨a, xs, rfl, SqT.of h1.1, by rw [h2.length, l], Ha, E, Fa, ρ, F, ds, S, h2, q⟩

/-! ### what is walked -/
/-- the source stands: what is shared as it was, what is looked at in its slot as it was -/
def SrcP (G : Wd) (E : Av) (σ : L2.St) (us : List (Nat × List PyData)) (H1 : Hp) (F1 : Fo) (W : Av) (H : Hp) : Prop :=
  Mv (Vo E F1) H1 W H ∧ ∀ p ∈ us, ∃ a xs, σ[p.1]? = some (some (.ref a)) ∧ H a = some (.lst xs) ∧ HasL G.K W H p.2 xs
structure ItD (G : Wd) (E : Av) (σ : L2.St) (J : It) (ds : List PyData) (us : List (Nat × List PyData)) (H1 : Hp) (F1 : Fo) : Prop where
  go : ∀ H W i, SrcP G E σ us H1 F1 W H → i < ds.length → J.go i H
  yld : ∀ H W i x H', SrcP G E σ us H1 F1 W H → (∀ a, W a → H a ≠ none) → i < ds.length → J.yld i H x H' → (∀ a o, H a = some o → H' a = some o) ∧ ∃ d, ds[i]? = some d ∧ Has G.K W H' d x
  stop : ∀ H W i, SrcP G E σ us H1 F1 W H → ds.length ≤ i → i ≤ ds.length → J.stop i H
def tI (G : Wd) (T : Xd) (Wx : WX) (wi : WI) : TI := fun σ H R => ∃ Ha E Fa ρ F xq, St G Ha E Fa σ H ρ F ∧ XP G T Ha E Fa Wx H F xq ∧
  wi ρ xq fun ds us ρ' => ∀ J H1 F1, St G Ha E Fa σ H1 ρ' F1 → Fr H F H1 F1 → ItD G E σ J ds us H1 F1 → R J H1
theorem SrcP.of (S : Fr H F H' F') : SrcP G E σ [] H F (Vo E F') H' := ⟨S.mv E, fun p hp => (by cases hp)⟩
end

/-! ### for -/
def forL (tg : WTg) (w : WS) : List PyData → List Sl → Po → Prop
  | [], ρ, P => P.nx ρ
  | d :: ds, ρ, P => tg d ρ fun ρ' => w ρ' { P with nx := fun ρ2 => forL tg w ds ρ2 P, ct := fun ρ2 => forL tg w ds ρ2 P, bk := P.nx }
def forS (wi : WI) (tg : WTg) (w : WS) : WS := fun ρ P => wi ρ P.xq fun ds us ρ' => us = [] ∧ forL tg w ds ρ' P
theorem forL_mono {tg : WTg} {w : WS} (mt : MonoTg tg) (mw : MonoW w) : ∀ (ds : List PyData) (ρ : List Sl) (P P' : Po), P.Le P' → forL tg w ds ρ P → forL tg w ds ρ P'
  | [], ρ, P, P', h, q => h.nx _ q
  | d :: ds, ρ, P, P', h, q => mt d ρ _ _ (fun ρ' q => mw ρ' { P with nx := fun ρ2 => forL tg w ds ρ2 P, ct := fun ρ2 => forL tg w ds ρ2 P, bk := P.nx } { P' with nx := fun ρ2 => forL tg w ds ρ2 P', ct := fun ρ2 => forL tg w ds ρ2 P', bk := P'.nx }
      ⟨fun ρ2 q => forL_mono mt mw ds ρ2 P P' h q, h.rt, h.nx, fun ρ2 q => forL_mono mt mw ds ρ2 P P' h q, h.xq⟩ q) q
theorem forS_mono {wi : WI} {tg : WTg} {w : WS} (mi : MonoI wi) (mt : MonoTg tg) (mw : MonoW w) : MonoW (forS wi tg w) := fun ρ P P' h q => by
  unfold forS
  rw [h.xq]
  exact mi _ _ _ _ (fun ds us ρ' ⟨e, q⟩ => ⟨e, forL_mono mt mw ds ρ' P P' h q⟩) q
section
variable {G : Wd} {T : Xd} {Wx : WX} {X : Cx}
theorem St.turn {Ha : Hp} {E : Av} {Fa : Fo} {σ : L2.St} {H H' : Hp} {ρ : List Sl} {F : Fo} (S : St G Ha E Fa σ H ρ F) (k : ∀ a o, H a = some o → H' a = some o) : St G Ha E Fa σ H' ρ F ∧ Fr H F H' F :=
  ⟨(S.ext (f := []) k (fun a h => (by cases h)) (fun a h => (by cases h))).less fun a h => .inl h, ⟨fun a o h _ => k a o h, fun a h => by
    cases w : H a with
    | none => exact absurd w h
    | some o => rw [k a o w]; simp, fun a h => .inl h⟩⟩
theorem ps_forS {tg iter : Expr} {bd : List Stmt} {pos : Pos} {wi : WI} {wt : WTg} {ix : List Nat} {w : WS} (mi : MonoI wi) (mt : MonoTg wt) (mw : MonoW w) (hp : PassesOwn (model X.prog X.w) X.A X.env X.xe) (hc : X.calm = true) (hi : PI X tg iter (tI G T Wx wi)) (hg : PG X tg (tTg G ix wt)) (hb : PSs X bd (tS G T Wx w))
    (hs : ∀ x, foldedSetIterable iter X.env x = pure x) : PS X (.For tg iter bd [] pos) (tS G T Wx (forS wi wt w)) := by
  refine ⟨fun pins s σ H D I h => ?_⟩
  obtain ⟨Ha, E, Fa, ρ, F, P, S, e, h⟩ := h
  refine (ps_for hp hc hi hg hb hs).run pins s σ H D I ?_
  refine ⟨Ha, E, Fa, ρ, F, P.xq, S, e.xp, mi _ _ _ _ (fun ds us ρ1 ⟨eu, q⟩ J H1 F1 S1 f1 it => ?_) h⟩
  subst eu
  refine ⟨fun i m σ' H' => m = ds.length - i ∧ i ≤ ds.length ∧ ∃ ρ' F', St G Ha E Fa σ' H' ρ' F' ∧ Fr H1 F1 H' F' ∧ forL wt w (ds.drop i) ρ' P, ⟨ds.length, by simp, Nat.zero_le _, ρ1, F1, S1, .refl _ _, q⟩, ?_⟩
  rintro i m σ2 H2 ⟨rfl, hi, ρ2, F2, S2, f2, q2⟩
  by_cases hlt : i < ds.length
  · refine .inr ⟨it.go _ _ _ (.of f2) hlt, fun σ3 H3 => ∃ ρ3 F3, St G Ha E Fa σ3 H3 ρ3 F3 ∧ Fr H1 F1 H3 F3 ∧ forL wt w (ds.drop (i + 1)) ρ3 P, fun σ3 H3 ⟨ρ3, F3, S3, f3, q3⟩ => ⟨ds.length - (i + 1), by omega, rfl, hlt, ρ3, F3, S3, f3, q3⟩, fun x H' y => ?_⟩
    obtain ⟨k, d, ed, hd⟩ := it.yld _ _ _ _ _ (.of f2) (fun a => S2.vo) hlt y
    obtain ⟨S2', fr2⟩ := S2.turn k
    have dr : ds.drop i = d :: ds.drop (i + 1) := by
      rw [List.drop_eq_getElem_cons hlt]
      have : ds[i] = d := by
        rw [List.getElem?_eq_getElem hlt] at ed
        exact Option.some.inj ed
      rw [this]
    rw [dr] at q2
    refine ⟨Ha, E, Fa, ρ2, F2, d, S2', hd, mt _ _ _ _ (fun ρ3 q3 σ3 F3 S3 sub _ => ?_) q2⟩
    have fr3 : Fr H2 F2 H' F3 := ⟨fr2.keep, fr2.dom, fun a h => .inl (sub a h)⟩
    have frA : Fr H F H' F3 := (f1.trans f2).trans fr3
    exact ⟨Ha, E, Fa, ρ3, F3, { P with nx := fun ρ2 => forL wt w (ds.drop (i + 1)) ρ2 P, ct := fun ρ2 => forL wt w (ds.drop (i + 1)) ρ2 P, bk := P.nx }, S3,
      ⟨fun ρ' σ' H4 F4 s4 f4 q4 => ⟨ρ', F4, s4, (f2.trans fr3).trans f4, q4⟩, fun ρ' σ' H4 F4 s4 f4 q4 => e.nx ρ' σ' H4 F4 s4 (frA.trans f4) q4, fun ρ' σ' H4 F4 s4 f4 q4 => ⟨ρ', F4, s4, (f2.trans fr3).trans f4, q4⟩,
        fun r ρ' σ' v H4 F4 g s4 f4 o na q4 => e.rt r ρ' σ' v H4 F4 g s4 (frA.trans f4) o na q4, e.xp.step frA⟩, q3⟩
  · have ei : i = ds.length := by omega
    subst ei
    rw [List.drop_length] at q2
    exact .inl ⟨it.stop _ _ _ (.of f2) (Nat.le_refl _) (Nat.le_refl _), e.nx ρ2 σ2 H2 F2 S2 (f1.trans f2) q2⟩
end

/-! ### while -/
def whileN (c : WT) (w : WS) : Nat → List Sl → Po → Prop
  | 0, _, _ => False
  | n + 1, ρ, P => c ρ P.xq fun b ρ' => if b = true then w ρ' { P with nx := fun ρ2 => whileN c w n ρ2 P, ct := fun ρ2 => whileN c w n ρ2 P, bk := P.nx } else P.nx ρ'
def whileS (c : WT) (w : WS) : WS := fun ρ P => ∃ n, whileN c w n ρ P
theorem whileN_mono {c : WT} {w : WS} (mc : MonoT c) (mw : MonoW w) : ∀ (n : Nat) (ρ : List Sl) (P P' : Po), P.Le P' → whileN c w n ρ P → whileN c w n ρ P'
  | 0, _, _, _, _, q => q.elim
  | n + 1, ρ, P, P', h, q => by
    unfold whileN at q ⊢
    have q2 : c ρ P'.xq fun b ρ' => if b = true then w ρ' { P with nx := fun ρ2 => whileN c w n ρ2 P, ct := fun ρ2 => whileN c w n ρ2 P, bk := P.nx } else P.nx ρ' := by
      have hx := h.xq
      rw [hx]
      exact q
    refine mc _ _ _ _ (fun b ρ' q => ?_) q2
    cases b with
    | true =>
      have L : Po.Le { P with nx := fun ρ2 => whileN c w n ρ2 P, ct := fun ρ2 => whileN c w n ρ2 P, bk := P.nx } { P' with nx := fun ρ2 => whileN c w n ρ2 P', ct := fun ρ2 => whileN c w n ρ2 P', bk := P'.nx } :=
        Po.Le.mk (fun ρ2 q => whileN_mono mc mw n ρ2 P P' h q) h.rt h.nx (fun ρ2 q => whileN_mono mc mw n ρ2 P P' h q) h.xq
      exact mw ρ' _ _ L q
    | false => exact h.nx _ q
theorem whileS_mono {c : WT} {w : WS} (mc : MonoT c) (mw : MonoW w) : MonoW (whileS c w) := fun ρ P P' h ⟨n, q⟩ => ⟨n, whileN_mono mc mw n ρ P P' h q⟩
section
variable {G : Wd} {T : Xd} {Wx : WX} {X : Cx}
theorem ps_whileS {c : Expr} {bd : List Stmt} {pos : Pos} {wc : WT} {w : WS} (mc : MonoT wc) (mw : MonoW w) (hp : PassesOwn (model X.prog X.w) X.A X.env X.xe) (hc : PT X c (tTT G T Wx wc)) (hb : PSs X bd (tS G T Wx w)) : PS X (.While c bd [] pos) (tS G T Wx (whileS wc w)) := by
  refine ⟨fun pins s σ H D I h => ?_⟩
  obtain ⟨Ha, E, Fa, ρ, F, P, S, e, n, h⟩ := h
  refine (ps_while hp hc hb).run pins s σ H D I ?_
  refine ⟨fun m σ' H' => ∃ ρ' F', St G Ha E Fa σ' H' ρ' F' ∧ Fr H F H' F' ∧ whileN wc w m ρ' P, ⟨n, ρ, F, S, .refl _ _, h⟩, ?_⟩
  rintro m σ2 H2 ⟨ρ2, F2, S2, f2, q2⟩
  cases m with
  | zero => exact q2.elim
  | succ m =>
    refine tTT.mk mc S2 (e.xp.step f2) q2 fun b ρ3 H3 F3 q3 S3 f3 => ?_
    have frA := f2.trans f3
    cases b with
    | true =>
      refine ⟨fun σ4 H4 => ∃ ρ4 F4, St G Ha E Fa σ4 H4 ρ4 F4 ∧ Fr H F H4 F4 ∧ whileN wc w m ρ4 P, fun σ4 H4 h4 => ⟨m, Nat.lt_succ_self _, h4⟩, ?_⟩
      exact ⟨Ha, E, Fa, ρ3, F3, { P with nx := fun ρ2 => whileN wc w m ρ2 P, ct := fun ρ2 => whileN wc w m ρ2 P, bk := P.nx }, S3,
        ⟨fun ρ' σ' H4 F4 s4 f4 q4 => ⟨ρ', F4, s4, frA.trans f4, q4⟩, fun ρ' σ' H4 F4 s4 f4 q4 => e.nx ρ' σ' H4 F4 s4 (frA.trans f4) q4, fun ρ' σ' H4 F4 s4 f4 q4 => ⟨ρ', F4, s4, frA.trans f4, q4⟩,
          fun r ρ' σ' v H4 F4 g s4 f4 o na q4 => e.rt r ρ' σ' v H4 F4 g s4 (frA.trans f4) o na q4, e.xp.step frA⟩, q3⟩
    | false => exact e.nx ρ3 σ2 H3 F3 S3 frA q3
end

/-! ### comprehensions -/
def wipeS (ρ : List Sl) : List Nat → List Sl
  | [] => ρ
  | v :: vs => (wipeS ρ vs).set v .no
/-- the own names' slots as they were, all others as they are -/
def keepS (old new : List Sl) : List Nat → List Sl
  | [] => new
  | v :: vs => (keepS old new vs).set v (old.getD v .no)
def noX : XQ := fun _ _ => False
def vwsOk : List (Nat × List PyData) → List Sl → Prop
  | [], _ => True
  | (i, l) :: us, ρ => (∃ b, ρ[i]? = some (.ol b l)) ∧ vwsOk us ρ
def compL (us : List (Nat × List PyData)) (vs : List Nat) (tg : WTg) (c : WT) (w : WE) : List PyData → List PyData → List Sl → (List PyData → List Sl → Prop) → Prop
  | [], acc, ρ, Q => vwsOk us ρ ∧ Q acc ρ
  | d :: ds, acc, ρ, Q => vwsOk us ρ ∧ tg d ρ fun ρ1 => c ρ1 noX fun b ρ2 => if b = true then w ρ2 noX fun r ρ3 => ∃ y, r.d = some y ∧ compL us vs tg c w ds (acc ++ [y]) (wipeS ρ3 vs) Q else compL us vs tg c w ds acc (wipeS ρ2 vs) Q
def compE (wi : WI) (vs : List Nat) (tg : WTg) (c : WT) (w : WE) : WE := fun ρ xq Q => wi ρ xq fun ds us ρ' => ds.length ≤ sizeLine ∧ compL us vs tg c w ds [] (wipeS ρ' vs) fun acc ρ2 => Q (.ol acc) (keepS ρ' ρ2 vs)
def yesT : WT := fun ρ _ Q => Q true ρ
theorem yesT_mono : MonoT yesT := fun ρ xq Q Q' h q => h _ _ q
theorem compL_mono {us : List (Nat × List PyData)} {vs : List Nat} {tg : WTg} {c : WT} {w : WE} (mt : MonoTg tg) (mc : MonoT c) (mw : MonoE w) : ∀ (ds acc : List PyData) (ρ : List Sl) (Q Q' : List PyData → List Sl → Prop), (∀ a ρ', Q a ρ' → Q' a ρ') → compL us vs tg c w ds acc ρ Q → compL us vs tg c w ds acc ρ Q'
  | [], acc, ρ, Q, Q', h, q => ⟨q.1, h _ _ q.2⟩
  | d :: ds, acc, ρ, Q, Q', h, q => ⟨q.1, mt _ _ _ _ (fun ρ1 q => mc _ _ _ _ (fun b ρ2 q => by
      cases b with
      | true => exact mw _ _ _ _ (fun r ρ3 ⟨y, e, q⟩ => ⟨y, e, compL_mono mt mc mw ds _ _ Q Q' h q⟩) q
      | false => exact compL_mono mt mc mw ds _ _ Q Q' h q) q) q.2⟩
theorem compE_mono {wi : WI} {vs : List Nat} {tg : WTg} {c : WT} {w : WE} (mi : MonoI wi) (mt : MonoTg tg) (mc : MonoT c) (mw : MonoE w) : MonoE (compE wi vs tg c w) := fun ρ xq Q Q' h q =>
  mi _ _ _ _ (fun ds us ρ' ⟨z, q⟩ => ⟨z, compL_mono mt mc mw ds _ _ _ _ (fun a ρ2 q => h _ _ q) q⟩) q
theorem wipeS_len {ρ : List Sl} : ∀ vs, (wipeS ρ vs).length = ρ.length
  | [] => rfl
  | v :: vs => by unfold wipeS; rw [List.length_set, wipeS_len vs]
theorem keepS_len {ρ ρ' : List Sl} : ∀ vs, (keepS ρ ρ' vs).length = ρ'.length
  | [] => rfl
  | v :: vs => by unfold keepS; rw [List.length_set, keepS_len vs]
theorem wipeS_out {ρ : List Sl} {i : Nat} : ∀ {vs : List Nat}, i ∉ vs → (wipeS ρ vs)[i]? = ρ[i]?
  | [], _ => rfl
  | v :: vs, h => by
    unfold wipeS
    rw [List.getElem?_set_ne (fun e => h (by rw [e]; exact List.mem_cons_self)), wipeS_out fun q => h (List.mem_cons_of_mem _ q)]
theorem wipeS_in {ρ : List Sl} {i : Nat} {s : Sl} : ∀ {vs : List Nat}, i ∈ vs → (wipeS ρ vs)[i]? = some s → s = .no
  | v :: vs, h, e => by
    unfold wipeS at e
    by_cases q : v = i
    · subst q
      rw [List.getElem?_set_self (by have := lt_of_get e; rw [List.length_set] at this; exact this)] at e
      cases e
      rfl
    · rw [List.getElem?_set_ne q] at e
      rcases List.mem_cons.mp h with h | h
      · exact absurd h.symm q
      · exact wipeS_in h e
theorem keepS_out {ρ ρ' : List Sl} {i : Nat} : ∀ {vs : List Nat}, i ∉ vs → (keepS ρ ρ' vs)[i]? = ρ'[i]?
  | [], _ => rfl
  | v :: vs, h => by
    unfold keepS
    rw [List.getElem?_set_ne (fun e => h (by rw [e]; exact List.mem_cons_self)), keepS_out fun q => h (List.mem_cons_of_mem _ q)]
theorem keepS_in {ρ ρ' : List Sl} {i : Nat} {s : Sl} : ∀ {vs : List Nat}, i ∈ vs → (keepS ρ ρ' vs)[i]? = some s → s = ρ.getD i .no
  | v :: vs, h, e => by
    unfold keepS at e
    by_cases q : v = i
    · subst q
      rw [List.getElem?_set_self (by have := lt_of_get e; rw [List.length_set] at this; exact this)] at e
      cases e
      rfl
    · rw [List.getElem?_set_ne q] at e
      rcases List.mem_cons.mp h with h | h
      · exact absurd h.symm q
      · exact keepS_in h e
/-- footprints without those of vs -/
def offF (F : Fo) (vs : List Nat) : Fo := fun i => if i ∈ vs then [] else F i
theorem offF_in {F : Fo} {vs : List Nat} {a : Addr} (h : InF (offF F vs) a) : ∃ i, i ∉ vs ∧ a ∈ F i := by
  obtain ⟨i, h⟩ := h
  unfold offF at h
  split at h
  · cases h
  · exact ⟨i, by assumption, h⟩
/-- addresses owned by the slots vs -/
def hidF (F : Fo) (vs : List Nat) : Av := fun a => ∃ i ∈ vs, a ∈ F i
section
variable {G : Wd} {T : Xd} {Wx : WX} {X : Cx} {Ha : Hp} {E : Av} {Fa : Fo} {σ : L2.St} {H : Hp} {ρ : List Sl} {F : Fo} {xq : XQ}
/-- into a block -/
theorem St.blk (vs : List Nat) (S : St G Ha E Fa σ H ρ F) : St G Ha (fun a => E a ∨ hidF F vs a) Fa (wipe σ vs) H (wipeS ρ vs) (offF F vs) where
  len := by rw [wipeS_len, wipe_length, S.len]
  sl := fun i s e => by
    by_cases hi : i ∈ vs
    · rw [wipeS_in hi e]
      show offF F vs i = []
      unfold offF
      rw [if_pos hi]
    · rw [wipeS_out hi] at e
      rw [wipe_out hi]
      have ef : offF F vs i = F i := by unfold offF; rw [if_neg hi]
      rw [ef]
      exact (S.sl i s e).mv ⟨fun _ _ q _ => q, fun a q => by
        rcases q with (q | ⟨j, _, q⟩) | q
        · exact .inl (.inl q)
        · exact .inl (.inr ⟨j, q⟩)
        · obtain ⟨j, _, q⟩ := offF_in q
          exact .inl (.inr ⟨j, q⟩)⟩ fun _ _ => rfl
  nof := fun i hi => by
    unfold offF
    split
    · rfl
    · exact S.nof i (by rw [wipeS_len] at hi; exact hi)
  dj := fun i j a h1 h2 => by
    unfold offF at h1 h2
    split at h1
    · cases h1
    · split at h2
      · cases h2
      · exact S.dj i j a h1 h2
  ex := fun a q z => by
    obtain ⟨i, hi, q⟩ := offF_in q
    rcases z with z | ⟨j, hj, z⟩
    · exact S.ex a ⟨i, q⟩ z
    · have := S.dj i j a q z
      subst this
      exact hi hj
  vd := fun a q => by
    rcases q with q | ⟨j, _, q⟩
    · exact S.vd a q
    · exact S.fd ⟨j, q⟩
  fr := ⟨S.fr.keep, S.fr.dom, fun a q => by
    obtain ⟨i, _, q⟩ := offF_in q
    exact S.fr.new a ⟨i, q⟩⟩
  bo := fun i s e b => by
    by_cases hi : i ∈ vs
    · rw [wipeS_in hi e] at b; cases b
    · rw [wipeS_out hi] at e
      unfold offF
      rw [if_neg hi]
      exact S.bo i s e b
  ub := fun i s e b => by
    by_cases hi : i ∈ vs
    · unfold offF
      rw [if_pos hi]
      intro a h
      cases h
    · rw [wipeS_out hi] at e
      unfold offF
      rw [if_neg hi]
      exact S.ub i s e b
/-- out of a block -/
theorem St.unblk (vs : List Nat) {H' : Hp} {ρ' : List Sl} {F' : Fo} {g : List Addr} (S : St G Ha E Fa σ H ρ F) (B : St G Ha (orF (fun a => E a ∨ hidF F vs a) g) Fa (wipe σ vs) H' ρ' F') (f : Fr H (offF F vs) H' F') (hv : ∀ i ∈ vs, F' i = []) (hg : ∀ a ∈ g, H a = none) :
    St G Ha (orF E g) Fa σ H' (keepS ρ ρ' vs) (fun i => if i ∈ vs then F i else F' i) ∧ Fr H F H' (fun i => if i ∈ vs then F i else F' i) := by
  have hl : ρ'.length = ρ.length := by rw [B.len, wipe_length, ← S.len]
  have inn : ∀ a, InF (fun i => if i ∈ vs then F i else F' i) a → InF F' a ∨ hidF F vs a := fun a ⟨i, q0⟩ => by
    have q : a ∈ (if i ∈ vs then F i else F' i) := q0
    by_cases hi : i ∈ vs
    · rw [if_pos hi] at q
      exact .inr ⟨i, hi, q⟩
    · rw [if_neg hi] at q
      exact .inl ⟨i, q⟩
  have sub : ∀ a, Vo (orF E g) (fun i => if i ∈ vs then F i else F' i) a → Vo (orF (fun a => E a ∨ hidF F vs a) g) F' a := fun a q => by
    rcases q with (q | q) | q
    · exact .inl (.inl (.inl q))
    · exact .inl (.inr q)
    · rcases inn a q with q | q
      · exact .inr q
      · exact .inl (.inl (.inr q))
  have kp : ∀ a, hidF F vs a → H' a = H a := fun a ⟨i, hi, q⟩ => by
    cases w : H a with
    | none => exact absurd w (S.fd ⟨i, q⟩)
    | some o =>
      refine f.keep a o w fun z => ?_
      obtain ⟨j, hj, z⟩ := offF_in z
      have := S.dj i j a q z
      subst this
      exact hj hi
  have fr : Fr H F H' (fun i => if i ∈ vs then F i else F' i) := ⟨fun a o h n => f.keep a o h fun z => by
      obtain ⟨j, _, z⟩ := offF_in z
      exact n ⟨j, z⟩, f.dom, fun a q => by
      rcases inn a q with q | ⟨i, _, q⟩
      · rcases f.new a q with q | q
        · obtain ⟨j, _, q⟩ := offF_in q
          exact .inl ⟨j, q⟩
        · exact .inr q
      · exact .inl ⟨i, q⟩⟩
  refine ⟨⟨by rw [keepS_len, hl, S.len], fun i s e => ?_, fun i hi => ?_, fun i j a h1 h2 => ?_, fun a q z => ?_, fun a q => ?_, S.fr.trans fr, fun i s e b => ?_, fun i s e b => ?_⟩, fr⟩
  · by_cases hi : i ∈ vs
    · have e' := keepS_in hi e
      have hil : i < ρ.length := by
        have := lt_of_get e
        rw [keepS_len, hl] at this
        exact this
      have e2 : ρ[i]? = some s := by
        rw [e', List.getD_eq_getElem?_getD, List.getElem?_eq_getElem hil]
        rfl
      show SlOk G _ H' (if i ∈ vs then F i else F' i) _ s
      rw [if_pos hi]
      refine (S.sl i s e2).mv ⟨fun a o h n => ?_, fun a q => ?_⟩ fun a ha => kp a ⟨i, hi, ha⟩
      · exact fr.keep a o h fun z => n (.inr z)
      · rcases q with (q | q) | q
        · exact .inl (.inl q)
        · exact .inr (hg a q)
        · rcases fr.new a q with q | q
          · exact .inl (.inr q)
          · exact .inr q
    · rw [keepS_out hi] at e
      show SlOk G _ H' (if i ∈ vs then F i else F' i) _ s
      rw [if_neg hi]
      have := B.sl i s e
      rw [wipe_out hi] at this
      exact this.mv ⟨fun _ _ q _ => q, fun a q => .inl (sub a q)⟩ fun _ _ => rfl
  · rw [keepS_len, hl] at hi
    show (if i ∈ vs then F i else F' i) = []
    split
    · exact S.nof i hi
    · exact B.nof i (by omega)
  · have h1 : a ∈ (if i ∈ vs then F i else F' i) := h1
    have h2 : a ∈ (if j ∈ vs then F j else F' j) := h2
    by_cases hi : i ∈ vs
    · rw [if_pos hi] at h1
      by_cases hj : j ∈ vs
      · rw [if_pos hj] at h2
        exact S.dj i j a h1 h2
      · rw [if_neg hj] at h2
        exact absurd (Or.inl (Or.inr ⟨i, hi, h1⟩)) (B.ex a ⟨j, h2⟩)
    · rw [if_neg hi] at h1
      by_cases hj : j ∈ vs
      · rw [if_pos hj] at h2
        exact absurd (Or.inl (Or.inr ⟨j, hj, h2⟩)) (B.ex a ⟨i, h1⟩)
      · rw [if_neg hj] at h2
        exact B.dj i j a h1 h2
  · rcases inn a q with q | ⟨i, hi, q⟩
    · rcases z with z | z
      · exact B.ex a q (.inl (.inl z))
      · exact B.ex a q (.inr z)
    · rcases z with z | z
      · exact S.ex a ⟨i, q⟩ z
      · exact S.fd ⟨i, q⟩ (hg a z)
  · rcases q with q | q
    · exact B.vd a (.inl (.inl q))
    · exact B.vd a (.inr q)
  · show (if i ∈ vs then F i else F' i) = Fa i
    by_cases hi : i ∈ vs
    · have e' := keepS_in hi e
      have hil : i < ρ.length := by
        have := lt_of_get e
        rw [keepS_len, hl] at this
        exact this
      rw [if_pos hi]
      exact S.bo i s (by rw [e', List.getD_eq_getElem?_getD, List.getElem?_eq_getElem hil]; rfl) b
    · rw [keepS_out hi] at e
      rw [if_neg hi]
      exact B.bo i s e b
  · show ∀ a ∈ (if i ∈ vs then F i else F' i), Ha a = none
    by_cases hi : i ∈ vs
    · have e' := keepS_in hi e
      have hil : i < ρ.length := by
        have := lt_of_get e
        rw [keepS_len, hl] at this
        exact this
      rw [if_pos hi]
      exact S.ub i s (by rw [e', List.getD_eq_getElem?_getD, List.getElem?_eq_getElem hil]; rfl) b
    · rw [keepS_out hi] at e
      rw [if_neg hi]
      exact B.ub i s e b
/-- a turn's end: the block's names are forgotten -/
theorem St.wiped (vs : List Nat) (S : St G Ha E Fa σ H ρ F) : St G Ha E Fa (wipe σ vs) H (wipeS ρ vs) (offF F vs) ∧ ∀ a, InF (offF F vs) a → InF F a := by
  refine ⟨(S.blk vs).less fun a h => .inl h, fun a q => ?_⟩
  obtain ⟨i, _, q⟩ := offF_in q
  exact ⟨i, q⟩
end
end Pd

/-! Pd10: comprehensions. -/
namespace Pd
open PySem L2

theorem wipe_in {σ : L2.St} {j : Nat} : ∀ {vs : List Nat}, j ∈ vs → j < σ.length → (wipe σ vs)[j]? = some none
  | v :: vs, h, l => by
    unfold wipe
    by_cases e : v = j
    · subst e
      rw [List.getElem?_set_self (by rw [wipe_length]; exact l)]
    · rw [List.getElem?_set_ne e]
      rcases List.mem_cons.mp h with h | h
      · exact absurd h.symm e
      · exact wipe_in h l
theorem wipe_ext {a b : L2.St} {vs : List Nat} (l : a.length = b.length) (h : ∀ j, j ∉ vs → a[j]? = b[j]?) : wipe a vs = wipe b vs := by
  refine List.ext_getElem? fun j => ?_
  by_cases hj : j ∈ vs
  · by_cases hl : j < a.length
    · rw [wipe_in hj hl, wipe_in hj (l ▸ hl)]
    · rw [List.getElem?_eq_none (by rw [wipe_length]; omega), List.getElem?_eq_none (by rw [wipe_length]; omega)]
  · rw [wipe_out hj, wipe_out hj, h j hj]
theorem wipe_but {σ σ' : L2.St} {ix vs : List Nat} (b : But ix (wipe σ vs) σ') (s : ∀ i ∈ ix, i ∈ vs) : wipe σ' vs = wipe σ vs :=
  wipe_ext (b.1.trans (wipe_length _ _)) fun j hj => (b.2 j fun z => hj (s j z)).trans (wipe_out hj)
section
variable {G : Wd} {T : Xd} {Wx : WX} {X : Cx} {Ha : Hp} {E : Av} {Fa : Fo} {σ : L2.St} {H H' : Hp} {ρ : List Sl} {F F' : Fo} {xq : XQ}
theorem XP.no : XP G T Ha E Fa Wx H F noX := fun _ _ _ _ _ _ _ _ _ _ h => h.elim
/-- what is another's is changed -/
theorem St.out {D : Addr} {o : HO} (S : St G Ha E Fa σ H ρ F) (hE : E D) (hHa : Ha D = none) : St G Ha E Fa σ (upd H D o) ρ F where
  len := S.len
  sl := fun i s e => (S.sl i s e).mv ⟨fun a u h n => by rw [upd_ne (fun z => n (by rw [z]; exact .inl hE))]; exact h, fun a h => .inl h⟩ fun a h => by
    rw [upd_ne (fun z => S.ex a ⟨i, h⟩ (by rw [z]; exact hE))]
  nof := S.nof
  dj := S.dj
  ex := S.ex
  vd := fun a h => by
    by_cases z : a = D
    · rw [z, upd_same]; simp
    · rw [upd_ne z]; exact S.vd a h
  fr := ⟨fun a u h n => by
      rw [upd_ne (fun z => by rw [z, hHa] at h; cases h)]
      exact S.fr.keep a u h n, fun a h => by
      by_cases z : a = D
      · rw [z, upd_same]; simp
      · rw [upd_ne z]; exact S.fr.dom a h, S.fr.new⟩
  bo := S.bo
  ub := S.ub
theorem Rs.has {r : R} {d : PyData} {ρ' : List Sl} {v : V} {f : List Addr} (S : St G Ha E Fa σ H ρ F) (rs : Rs G Ha E Fa σ H F (.rv r) ρ' v H' F' f) (e : r.d = some d) : Has G.K (Vo E F') H' d v := by
  refine rv_has rs.ow (show rvD (.rv r) = some d from e) (fun a ha q => ?_) fun a h => h.imp .inl id
  rcases q with q | q
  · exact rs.nE S a ha q
  · exact rs.tmp ha q
theorem vws_get {us : List (Nat × List PyData)} {ρ : List Sl} : vwsOk us ρ → ∀ p ∈ us, ∃ b, ρ[p.1]? = some (.ol b p.2) := by
  induction us with
  | nil => intro _ p hp; cases hp
  | cons u us ih =>
    intro h p hp
    rcases List.mem_cons.mp hp with rfl | hp
    · exact h.1
    · exact ih h.2 p hp
/-- a comprehension's loop -/
theorem lc_go {wi : WI} {wt : WTg} {wc : WT} {we : WE} {ix vs : List Nat} {Q : VK} {Q0 : R → List Sl → Prop} (mi : MonoI wi) (mt : MonoTg wt) (mc : MonoT wc) (mw : MonoE we) (hv : ∀ i ∈ ix, i ∈ vs) (S : St G Ha E Fa σ H ρ F) (xp : XP G T Ha E Fa Wx H F xq)
    (h : compE wi vs wt wc we ρ xq Q0) (k : ∀ r ρ' v H' F' f, Q0 r ρ' → Rs G Ha E Fa σ H F (.rv r) ρ' v H' F' f → Q v H') :
    tLc (tI G T Wx wi) (tTg G ix wt) (tTT G T (fun _ _ _ _ => False) wc) (tE G T (fun _ _ _ _ => False) we) vs σ H Q := by
  refine ⟨Ha, E, Fa, ρ, F, xq, S, xp, mi _ _ _ _ (fun ds us ρ1 ⟨hz, q⟩ J H1 F1 S1 f1 it => ?_) h⟩
  intro D hD
  have hDa : Ha D = none := by
    cases z : Ha D with
    | none => rfl
    | some o => exact absurd hD (S1.fr.dom D (by rw [z]; simp))
  let Eb : Av := orF (fun a => E a ∨ hidF F1 vs a) [D]
  have hEb : Eb D := .inr (List.mem_singleton.mpr rfl)
  refine ⟨fun i m H => m = ds.length - i ∧ i ≤ ds.length ∧ ∃ ρ2 F2 acc xs, St G Ha Eb Fa (wipe σ vs) H ρ2 F2 ∧ Fr H1 (offF F1 vs) H F2 ∧ (∀ i ∈ vs, F2 i = []) ∧ H D = some (.lst xs) ∧ HasL G.K (Vo Eb F2) H acc xs ∧ acc.length ≤ i ∧
    compL us vs wt wc we (ds.drop i) acc ρ2 (fun acc ρ2 => Q0 (.ol acc) (keepS ρ1 ρ2 vs)), ⟨ds.length, by simp, Nat.zero_le _, wipeS ρ1 vs, offF F1 vs, [], [], ?_, ?_, fun i hi => if_pos hi, upd_same, .nil, Nat.le_refl _, q⟩, ?_⟩
  · exact (S1.blk vs).ext (f := [D]) (fun a o e => by rw [upd_ne (ne_of_none e hD)]; exact e) (fun a h => by rw [List.mem_singleton.mp h]; exact hD) (fun a h => by rw [List.mem_singleton.mp h, upd_same]; simp)
  · exact ⟨fun a o e _ => by rw [upd_ne (ne_of_none e hD)]; exact e, fun a h => by
      by_cases z : a = D
      · rw [z, upd_same]; simp
      · rw [upd_ne z]; exact h, fun a h => .inl h⟩
  rintro i m H2 ⟨rfl, hi, ρ2, F2, acc, xs, S2, f2, hv2, hDx, hacc, hlen, q2⟩
  have src : vwsOk us ρ2 → SrcP G E σ us H1 F1 (Vo Eb F2) H2 := fun vw => by
    refine ⟨⟨fun a o e n => f2.keep a o e fun z => ?_, fun a z => ?_⟩, fun p hp => ?_⟩
    · obtain ⟨j, _, z⟩ := offF_in z
      exact n (.inr ⟨j, z⟩)
    · rcases z with ((z | ⟨j, _, z⟩) | z) | z
      · exact .inl (.inl z)
      · exact .inl (.inr ⟨j, z⟩)
      · rw [List.mem_singleton.mp z]; exact .inr hD
      · rcases f2.new a z with z | z
        · obtain ⟨j, _, z⟩ := offF_in z
          exact .inl (.inr ⟨j, z⟩)
        · exact .inr z
    · obtain ⟨b, e⟩ := vws_get vw p hp
      obtain ⟨v, e1, _, a, xs, e2, _, e4, e5⟩ := S2.slot e rfl
      subst e2
      exact ⟨a, xs, (wipe_some e1).1, e4, e5⟩
  by_cases hlt : i < ds.length
  · have dr : ds.drop i = ds[i] :: ds.drop (i + 1) := List.drop_eq_getElem_cons hlt
    rw [dr] at q2
    obtain ⟨vw, q2⟩ := q2
    have sp := src vw
    refine .inr ⟨it.go _ _ _ sp hlt, fun H3 => ∃ ρ2 F2 acc xs, St G Ha Eb Fa (wipe σ vs) H3 ρ2 F2 ∧ Fr H1 (offF F1 vs) H3 F2 ∧ (∀ i ∈ vs, F2 i = []) ∧ H3 D = some (.lst xs) ∧ HasL G.K (Vo Eb F2) H3 acc xs ∧ acc.length ≤ i + 1 ∧
      compL us vs wt wc we (ds.drop (i + 1)) acc ρ2 (fun acc ρ2 => Q0 (.ol acc) (keepS ρ1 ρ2 vs)), fun H3 h3 => ⟨ds.length - (i + 1), by omega, rfl, hlt, h3⟩, fun x H3 y => ?_⟩
    obtain ⟨kp, d, ed, hd⟩ := it.yld _ _ _ _ _ sp (fun a => S2.vo) hlt y
    have : ds[i] = d := by
      rw [List.getElem?_eq_getElem hlt] at ed
      exact Option.some.inj ed
    rw [this] at q2
    obtain ⟨S3, fr3⟩ := S2.turn kp
    refine ⟨Ha, Eb, Fa, ρ2, F2, d, S3, hd, mt _ _ _ _ (fun ρ4 q4 σ4 F4 S4 sub bt => ?_) q2⟩
    refine ⟨wipe_but bt hv, ?_⟩
    have fr4 : Fr H2 F2 H3 F4 := ⟨fr3.keep, fr3.dom, fun a h => .inl (sub a h)⟩
    refine tTT.mk mc S4 XP.no q4 fun b ρ5 H5 F5 q5 S5 fr5 => ?_
    have nD : ∀ (F : Fo), St G Ha Eb Fa σ4 H5 ρ5 F → ¬ InF F D := fun F S h => S.ex D h hEb
    have fr25 : Fr H2 F2 H5 F5 := fr4.trans fr5
    have offS : ∀ {F : Fo} {a : Addr}, InF (offF F vs) a → InF F a := fun {F a} h => by
      obtain ⟨j, _, h⟩ := offF_in h
      exact ⟨j, h⟩
    cases b with
    | false =>
      obtain ⟨S6, sub6⟩ := S5.wiped vs
      rw [wipe_but bt hv] at S6
      have kD : H5 D = some (.lst xs) := fr25.keep D _ hDx fun z => S2.ex D z hEb
      refine ⟨wipeS ρ5 vs, offF F5 vs, acc, xs, S6, ?_, fun i hi => if_pos hi, kD, ?_, by omega, q5⟩
      · have f6 := f2.trans fr25
        exact ⟨f6.keep, f6.dom, fun a h => f6.new a (sub6 a h)⟩
      · exact HasL.mv ⟨fun a o e n => fr25.keep a o e fun z => n (.inr z), fun a z => by
          rcases z with z | z
          · exact .inl (.inl z)
          · rcases fr25.new a (sub6 a z) with z | z
            · exact .inl (.inr z)
            · exact .inr z⟩ _ _ hacc
    | true =>
      refine tE.mk mw S5 XP.no q5 fun r ρ6 v H6 F6 f6 q6 rs => ?_
      obtain ⟨y, ey, q6⟩ := q6
      have hy := rs.has S5 ey
      have fr26 : Fr H2 F2 H6 F6 := fr25.trans rs.fr
      have kD : H6 D = some (.lst xs) := fr26.keep D _ hDx fun z => S2.ex D z hEb
      refine ⟨xs, kD, by rw [hacc.length]; omega, ?_⟩
      obtain ⟨S7, sub7⟩ := (rs.st.less (E' := Eb) fun a h => .inl h).wiped vs
      rw [wipe_but bt hv] at S7
      refine ⟨wipeS ρ6 vs, offF F6 vs, acc ++ [y], xs ++ [v], S7.out hEb hDa, ?_, fun i hi => if_pos hi, upd_same, .append (HasL.mv ⟨fun a o e n => ?_, fun a z => ?_⟩ _ _ hacc) (.one (Has.mv ⟨fun a o e n => ?_, fun a z => ?_⟩ _ _ hy)), by rw [List.length_append]; simp; omega, q6⟩
      · have f7 := f2.trans fr26
        exact ⟨fun a o e n => by rw [upd_ne (ne_of_none e hD)]; exact f7.keep a o e n, fun a h => by
          by_cases z : a = D
          · rw [z, upd_same]; simp
          · rw [upd_ne z]; exact f7.dom a h, fun a h => f7.new a (sub7 a h)⟩
      · rw [upd_ne fun z => n (by rw [z]; exact .inl hEb)]
        exact fr26.keep a o e fun z => n (.inr z)
      · rcases z with z | z
        · exact .inl (.inl z)
        · rcases fr26.new a (sub7 a z) with z | z
          · exact .inl (.inr z)
          · exact .inr z
      · rw [upd_ne fun z => n (by rw [z]; exact .inl hEb)]
        exact e
      · rcases z with z | z
        · exact .inl (.inl z)
        · exact .inl (.inr (sub7 a z))
  · have ei : i = ds.length := by omega
    subst ei
    rw [List.drop_length] at q2
    obtain ⟨vw, q2⟩ := q2
    refine .inl ⟨it.stop _ _ _ (src vw) (Nat.le_refl _) (Nat.le_refl _), ?_⟩
    obtain ⟨S3, f3⟩ := St.unblk vs (g := [D]) S1 S2 f2 hv2 fun a h => by rw [List.mem_singleton.mp h]; exact hD
    refine k _ _ (.ref D) H2 _ [D] q2 ⟨S3, f1.trans f3, ⟨by omega, D, xs, rfl, rfl, hDx, HasL.mv ⟨fun _ _ h _ => h, fun a z => .inl ?_⟩ _ _ hacc⟩, fun a h => by rw [List.mem_singleton.mp h]; exact hDa, fun a h => by rw [List.mem_singleton.mp h]; exact .inr (f1.none hD)⟩
    rcases z with (z | z) | ⟨j, z⟩
    · exact .inl (.inl (.inl z))
    · exact .inl (.inr z)
    · have z : a ∈ (if j ∈ vs then F1 j else F2 j) := z
      by_cases hj : j ∈ vs
      · rw [if_pos hj] at z
        exact .inl (.inl (.inr ⟨j, hj, z⟩))
      · rw [if_neg hj] at z
        exact .inr ⟨j, z⟩
theorem pts_yes : PTs X [] (tTT G T Wx yesT) := by
  refine ⟨fun pins s σ H Q I h => ?_⟩
  obtain ⟨Ha, E, Fa, ρ, F, xq, S, xp, h⟩ := h
  exact pts_nil.run pins s σ H Q I (h H F S (.refl _ _))
theorem pe_compE {elt tg iter : Expr} {ifs : List Expr} {scope : Scope} {own : List (Str × Nat)} {pos : Pos} {wi : WI} {wt : WTg} {wc : WT} {we : WE} {ix : List Nat} (mi : MonoI wi) (mt : MonoTg wt) (mc : MonoT wc) (mw : MonoE we) (hv : ∀ i ∈ ix, i ∈ own.map (·.2))
    (hc : X.calm = true) (hN : X.N.Nodup) (hi : PI X tg iter (tI G T Wx wi)) (ok : BlkOk X.N X.env.scope scope own)
    (hg : ∀ (s : Shared) (H : Hp) (C : Addr) (cl : List (Str × Addr)) (fp : List Addr), PG (X.blk s H scope (compEnvC scope cl C X.env) fp) tg (tTg G ix wt))
    (ht : ∀ (s : Shared) (H : Hp) (C : Addr) (cl : List (Str × Addr)) (fp : List Addr), PTs (X.blk s H scope (compEnvC scope cl C X.env) fp) ifs (tTT G T (fun _ _ _ _ => False) wc))
    (he : ∀ (s : Shared) (H : Hp) (C : Addr) (cl : List (Str × Addr)) (fp : List Addr), PE (X.blk s H scope (compEnvC scope cl C X.env) fp) elt (tE G T (fun _ _ _ _ => False) we)) (hs : ∀ x, foldedSetIterable iter X.env x = pure x) :
    PE X (.ListComp elt [⟨tg, iter, ifs, 0⟩] scope pos) (tE G T Wx (compE wi (own.map (·.2)) wt wc we)) := by
  refine ⟨fun pins s σ H Q I h => ?_⟩
  obtain ⟨Ha, E, Fa, ρ, F, xq, S, xp, h⟩ := h
  refine (pe_lc hc hN hi ok hg ht he hs).run pins s σ H Q I ?_
  exact lc_go mi mt mc mw hv S xp h fun r ρ' v H' F' f q rs => q v H' F' f rs
theorem ps_setCompS {i : Nat} {y : Str} {py : Pos} {elt tg iter : Expr} {ifs : List Expr} {scope : Scope} {own : List (Str × Nat)} {pos spos : Pos} {wi : WI} {wt : WTg} {wc : WT} {we : WE} {ix : List Nat} (mi : MonoI wi) (mt : MonoTg wt) (mc : MonoT wc) (mw : MonoE we) (hv : ∀ i ∈ ix, i ∈ own.map (·.2))
    (hc : X.calm = true) (hN : X.N.Nodup) (hy : X.N[i]? = some y) (hyl : X.env.scope.names.lookup y = some .local)
    (hsw : swapsWith (.ListComp elt [⟨tg, iter, ifs, 0⟩] scope pos) (some (.Name y py)) spos.line X.env = pure true) (hi : PI X tg iter (tI G T Wx wi)) (ok : BlkOk X.N X.env.scope scope own)
    (hg : ∀ (s : Shared) (H : Hp) (C : Addr) (cl : List (Str × Addr)) (fp : List Addr), PG (X.blk s H scope (compEnvC scope cl C X.env) fp) tg (tTg G ix wt))
    (ht : ∀ (s : Shared) (H : Hp) (C : Addr) (cl : List (Str × Addr)) (fp : List Addr), PTs (X.blk s H scope (compEnvC scope cl C X.env) fp) ifs (tTT G T (fun _ _ _ _ => False) wc))
    (he : ∀ (s : Shared) (H : Hp) (C : Addr) (cl : List (Str × Addr)) (fp : List Addr), PE (X.blk s H scope (compEnvC scope cl C X.env) fp) elt (tE G T (fun _ _ _ _ => False) we)) (hs : ∀ x, foldedSetIterable iter X.env x = pure x) :
    PS X (.Assign [.Name y py] (.ListComp elt [⟨tg, iter, ifs, 0⟩] scope pos) spos) (tS G T Wx (asgS i (compE wi (own.map (·.2)) wt wc we))) := by
  refine ⟨fun pins s σ H D I h => ?_⟩
  obtain ⟨Ha, E, Fa, ρ, F, P, S, e, h⟩ := h
  refine (ps_setLc hc hN hy hyl hsw hi ok hg ht he hs).run pins s σ H D I ?_
  exact lc_go mi mt mc mw hv S e.xp h fun r ρ' v H' F' f q rs => asg_go S e rs q
end
end Pd

/-! Pd11: what is walked: sequences, ranges, enumerate. -/
namespace Pd
open PySem L2

/-! ### sources -/
/-- what an argument is walked as; what must stay in its slot -/
def srcSl (i : Nat) : Sl → Option (List PyData × List (Nat × List PyData))
  | .ol _ l => some (l, [(i, l)])
  | .sh (.list l) => some (l, [])
  | .sh (.tuple l) => some (l, [])
  | .scr ns => some (ns.map .int, [])
  | _ => none
def srcOf (ρ : List Sl) : AV → Option (List PyData × List (Nat × List PyData))
  | .vw i => (ρ[i]?).bind (srcSl i)
  | .rv (.sh (.list l)) => some (l, [])
  | .rv (.sh (.tuple l)) => some (l, [])
  | .rv (.ol l) => some (l, [])
  | .rv (.scr ns) => some (ns.map .int, [])
  | .rv _ => none
/-- the value at a is walked as ds -/
def SrcA (G : Wd) (E : Av) (σ : L2.St) (us : List (Nat × List PyData)) (H1 : Hp) (F1 : Fo) (a : Addr) (ds : List PyData) : Prop :=
  (∀ W H, SrcP G E σ us H1 F1 W H → ∃ xs, SqL G.K H a xs ∧ HasL G.K W H ds xs) ∨ (∀ W H, SrcP G E σ us H1 F1 W H → ∃ xs, SqT G.K H a xs ∧ HasL G.K W H ds xs)
section
variable {G : Wd} {T : Xd} {Wx : WX} {X : Cx} {Ha : Hp} {E : Av} {Fa : Fo} {σ : L2.St} {H H1 : Hp} {ρ : List Sl} {F F1 : Fo} {xq : XQ} {W0 : Av} {us us' : List (Nat × List PyData)}
theorem SrcA.list {l : List PyData} {v : V} (h : Has G.K (Vo E F1) H1 (.list l) v) : ∃ a, v = .ref a ∧ SrcA G E σ us H1 F1 a l := by
  have h0 := h
  unfold Has at h0
  obtain ⟨z, a, xs, rfl, _, _⟩ := h0
  refine ⟨a, rfl, .inl fun W H s => ?_⟩
  have h1 := Has.mv s.1 _ _ h
  unfold Has at h1
  obtain ⟨z, b, ys, e, p, q⟩ := h1
  cases e
  exact ⟨ys, p.sq, q⟩
theorem SrcA.tuple {l : List PyData} {v : V} (h : Has G.K (Vo E F1) H1 (.tuple l) v) : ∃ a, v = .ref a ∧ SrcA G E σ us H1 F1 a l := by
  have h0 := h
  unfold Has at h0
  obtain ⟨z, a, xs, rfl, _, _⟩ := h0
  refine ⟨a, rfl, .inr fun W H s => ?_⟩
  have h1 := Has.mv s.1 _ _ h
  unfold Has at h1
  obtain ⟨z, b, ys, e, p, q⟩ := h1
  cases e
  exact ⟨ys, p.sq, q⟩
theorem SrcA.scr {ns : List Int} {v : V} (h : ScOk G.K (Vo E F1) H1 ns v) : ∃ a, v = .ref a ∧ SrcA G E σ us H1 F1 a (ns.map .int) := by
  obtain ⟨a, rfl, _⟩ := id h
  refine ⟨a, rfl, .inl fun W H s => ?_⟩
  obtain ⟨b, e, q⟩ := (h.mv s.1).sq
  cases e
  exact ⟨_, q, .ints ns⟩
theorem SrcA.more {a : Addr} {ds : List PyData} (h : SrcA G E σ us H1 F1 a ds) (s : ∀ p ∈ us, p ∈ us') : SrcA G E σ us' H1 F1 a ds := by
  rcases h with h | h
  · exact .inl fun W H q => h W H ⟨q.1, fun p hp => q.2 p (s p hp)⟩
  · exact .inr fun W H q => h W H ⟨q.1, fun p hp => q.2 p (s p hp)⟩
theorem srcOf_ok {av : AV} {ds : List PyData} {v : V} {f : List Addr} (S : St G Ha E Fa σ H1 ρ F1) (o : AvOk G W0 H1 σ f v av) (sub : ∀ a, Vo E F1 a → W0 a) (n : ∀ a ∈ f, ¬ Vo E F1 a) (e : srcOf ρ av = some (ds, us)) : ∃ a, v = .ref a ∧ SrcA G E σ us H1 F1 a ds := by
  cases av with
  | vw i =>
    obtain ⟨_, hv⟩ := o
    change (ρ[i]?).bind (srcSl i) = some (ds, us) at e
    cases q : ρ[i]? with
    | none => rw [q] at e; cases e
    | some s =>
      rw [q] at e
      change srcSl i s = some (ds, us) at e
      have own : ∀ r, s.r = some r → Ow G (Vo E F1) H1 (F1 i) v r := fun r er => by
        obtain ⟨v', h1, h2⟩ := S.slot q er
        rw [hv] at h1
        cases h1
        exact h2
      cases s with
      | no => cases e
      | sh d =>
        cases d with
        | list l => cases e; exact SrcA.list (own _ rfl).2
        | tuple l => cases e; exact SrcA.tuple (own _ rfl).2
        | _ => cases e
      | ol b l =>
        cases e
        obtain ⟨z, a, xs, h2, h3, h4, h5⟩ := own _ rfl
        refine ⟨a, h2, .inl fun W H s => ?_⟩
        obtain ⟨a', ys, e1, e2, e3⟩ := s.2 _ (List.mem_singleton.mpr rfl)
        rw [hv, h2] at e1
        cases e1
        exact ⟨ys, .of e2, e3⟩
      | od b t l => cases e
      | pot b => cases e
      | scr ns => cases e; exact SrcA.scr (own _ rfl).2
  | rv r =>
    have go : ∀ d, r.d = some d → Has G.K (Vo E F1) H1 d v := fun d q => rv_has o (show rvD (.rv r) = some d from q) n sub
    cases r with
    | sh d =>
      cases d with
      | list l => cases e; exact SrcA.list (go _ rfl)
      | tuple l => cases e; exact SrcA.tuple (go _ rfl)
      | _ => cases e
    | ol l => cases e; exact SrcA.list (go _ rfl)
    | od t l => cases e
    | pot => cases e
    | scr ns =>
      cases e
      exact SrcA.scr (o.2.mv ⟨fun _ _ q _ => q, fun a q => .inl (sub a q)⟩)
theorem Rs.off (S : St G Ha E Fa σ H ρ F) {av : AV} {ρ' : List Sl} {v : V} {f : List Addr} (r : Rs G Ha E Fa σ H F av ρ' v H1 F1 f) : ∀ a ∈ f, ¬ Vo E F1 a := fun a ha q => by
  rcases q with q | q
  · exact r.nE S a ha q
  · exact r.tmp ha q
theorem ItD.list {a : Addr} {ds : List PyData} (h : ∀ W H, SrcP G E σ us H1 F1 W H → ∃ xs, SqL G.K H a xs ∧ HasL G.K W H ds xs) : ItD G E σ (Itl G.K a) ds us H1 F1 where
  go := fun H W i s hi => by
    obtain ⟨xs, q, hl⟩ := h W H s
    obtain ⟨x, e, _⟩ := hl.get (i := i) (d := ds[i]) (by simp [hi])
    exact ⟨xs, x, q, e⟩
  yld := fun H W i x H' s _ _ y => by
    obtain ⟨xs, q, hl⟩ := h W H s
    obtain ⟨rfl, y⟩ := y
    obtain ⟨d, e, p⟩ := hl.get' (y xs q)
    exact ⟨fun _ _ h => h, d, e, p⟩
  stop := fun H W i s hi _ => by
    obtain ⟨xs, q, hl⟩ := h W H s
    exact ⟨xs, q, by rw [hl.length]; exact hi⟩
theorem ItD.tup {a : Addr} {ds : List PyData} (h : ∀ W H, SrcP G E σ us H1 F1 W H → ∃ xs, SqT G.K H a xs ∧ HasL G.K W H ds xs) : ItD G E σ (Itt G.K a) ds us H1 F1 where
  go := fun H W i s hi => by
    obtain ⟨xs, q, hl⟩ := h W H s
    obtain ⟨x, e, _⟩ := hl.get (i := i) (d := ds[i]) (by simp [hi])
    exact ⟨xs, x, q, e⟩
  yld := fun H W i x H' s _ _ y => by
    obtain ⟨xs, q, hl⟩ := h W H s
    obtain ⟨rfl, y⟩ := y
    obtain ⟨d, e, p⟩ := hl.get' (y xs q)
    exact ⟨fun _ _ h => h, d, e, p⟩
  stop := fun H W i s hi _ => by
    obtain ⟨xs, q, hl⟩ := h W H s
    exact ⟨xs, q, by rw [hl.length]; exact hi⟩
end

/-! ### a list or a tuple -/
def seqI (w : WG) : WI := fun ρ xq Q => w ρ xq fun av ρ' => ∃ ds us, srcOf ρ' av = some (ds, us) ∧ Q ds us ρ'
theorem seqI_mono {w : WG} (m : MonoG w) : MonoI (seqI w) := fun ρ xq Q Q' h q => m _ _ _ _ (fun av ρ' ⟨ds, us, e, q⟩ => ⟨ds, us, e, h _ _ _ q⟩) q
def iSeq (K : PySem.W.Frag) (tl : TE) : TI := fun σ H R => tl σ H fun x H1 => ∃ a, x = .ref a ∧ (((∃ xs, SqL K H1 a xs) ∧ R (Itl K a) H1) ∨ ((∃ xs, SqT K H1 a xs) ∧ R (Itt K a) H1))
section
variable {G : Wd} {T : Xd} {Wx : WX} {X : Cx}
theorem pi_seq {tg l : Expr} {tl : TE} (hl : PE X l tl) : PI X tg l (iSeq X.K tl) := by
  refine ⟨fun pins s σ H R I h => ?_⟩
  refine thn (hl.run pins s σ H _ I h) fun v s1 ⟨x, H1, I1, r1, a, e, q⟩ => ?_
  subst e
  cases r1
  have fp : ∀ b ∈ [s1.heap.objs.size], FpOk X pins H1 b := fun b hb => by
    rw [List.mem_singleton.mp hb]
    exact I1.fpOk (Nat.le_refl _) (I1.hok.fresh (Nat.le_refl _))
  rcases q with ⟨⟨xs, hq⟩, q⟩ | ⟨⟨xs, hq⟩, q⟩
  · obtain ⟨its, rv, p, hz⟩ := I1.list hq
    refine wpAny_pyIter_list p.isList ?_
    exact ⟨s1.heap.objs.size, [s1.heap.objs.size], _, _, H1, rfl, I1.kept (t' := s1.toks) fun b o e => Heap.get?_push_of_some _ e, turn_list a _, ⟨_, Heap.get?_push_size _ rfl, rfl, rfl⟩, fp, q⟩
  · obtain ⟨its, rv, p, hz⟩ := I1.tuple hq
    refine wpAny_pyIter_tuple (show s1.heap.IsTuple a its.toArray from p) ?_
    exact ⟨s1.heap.objs.size, [s1.heap.objs.size], _, _, H1, rfl, I1.kept (t' := s1.toks) fun b o e => Heap.get?_push_of_some _ e, turn_tuple a _, ⟨_, Heap.get?_push_size _ rfl, rfl, rfl⟩, fp, q⟩
theorem St.self {Ha : Hp} {E : Av} {Fa : Fo} {σ : L2.St} {H : Hp} {ρ : List Sl} {F : Fo} (S : St G Ha E Fa σ H ρ F) {us : List (Nat × List PyData)} (h : ∀ p ∈ us, ∃ b, ρ[p.1]? = some (.ol b p.2)) : SrcP G E σ us H F (Vo E F) H :=
  ⟨⟨fun _ _ h _ => h, fun a h => .inl h⟩, fun p hp => by
    obtain ⟨b, e⟩ := h p hp
    obtain ⟨v, h1, z, a, xs, h2, h3, h4, h5⟩ := S.slot e rfl
    subst h2
    exact ⟨a, xs, h1, h4, h5⟩⟩
theorem srcOf_us {ρ : List Sl} {av : AV} {ds : List PyData} {us : List (Nat × List PyData)} (e : srcOf ρ av = some (ds, us)) : ∀ p ∈ us, ∃ b, ρ[p.1]? = some (.ol b p.2) := by
  intro p hp
  cases av with
  | vw i =>
    change (ρ[i]?).bind (srcSl i) = some (ds, us) at e
    cases q : ρ[i]? with
    | none => rw [q] at e; cases e
    | some s =>
      rw [q] at e
      change srcSl i s = some (ds, us) at e
      cases s with
      | ol b l =>
        cases e
        rw [List.mem_singleton.mp hp]
        exact ⟨b, q⟩
      | sh d => cases d <;> cases e <;> cases hp
      | no => cases e
      | od b t l => cases e
      | pot b => cases e
      | scr ns => cases e; cases hp
  | rv r =>
    cases r with
    | sh d => cases d <;> cases e <;> cases hp
    | ol l => cases e; cases hp
    | od t l => cases e
    | pot => cases e
    | scr ns => cases e; cases hp
theorem pi_seqI {tg e : Expr} {w : WG} (m : MonoG w) (hK : X.K = G.K) (h : PE X e (tG G T Wx w)) : PI X tg e (tI G T Wx (seqI w)) := by
  refine ⟨fun pins s σ H R I h' => ?_⟩
  obtain ⟨Ha, E, Fa, ρ, F, xq, S, xp, q⟩ := h'
  refine (pi_seq h).run pins s σ H R I ?_
  refine tG.mk m S xp q fun av ρ' v H1 F1 f q0 rs => ?_
  obtain ⟨ds, us, e, q0⟩ := q0
  have S1 := rs.st.less (E' := E) fun a h => .inl h
  obtain ⟨a, rfl, src⟩ := srcOf_ok S1 rs.ow (fun a h => h.imp .inl id) (rs.off S) e
  have self := S1.self (srcOf_us e)
  refine ⟨a, rfl, ?_⟩
  rw [hK]
  rcases src with src | src
  · obtain ⟨xs, hq, _⟩ := src _ _ self
    exact .inl ⟨⟨xs, hq⟩, q0 _ H1 F1 S1 rs.fr (.list src)⟩
  · obtain ⟨xs, hq, _⟩ := src _ _ self
    exact .inr ⟨⟨xs, hq⟩, q0 _ H1 F1 S1 rs.fr (.tup src)⟩
end

/-! ### ranges -/
def rngD (lo : Int) (n : Nat) : List PyData := (List.range n).map fun (i : Nat) => .int (lo + i)
def Bd (j : Int) : Prop := -(2 ^ 62) ≤ j ∧ j < 2 ^ 62
def rng1I (wa : WA) : WI := fun ρ xq Q => wa ρ xq fun avs ρ' => ∃ j, allD ρ' avs = some [.int j] ∧ Bd j ∧ Q (rngD 0 j.toNat) [] ρ'
def rng2I (wa : WA) : WI := fun ρ xq Q => wa ρ xq fun avs ρ' => ∃ i j, allD ρ' avs = some [.int i, .int j] ∧ Bd i ∧ Bd j ∧ Q (rngD i (j - i).toNat) [] ρ'
theorem rng1I_mono {wa : WA} (m : MonoA wa) : MonoI (rng1I wa) := fun ρ xq Q Q' h q => m _ _ _ _ (fun av ρ' ⟨j, e, b, q⟩ => ⟨j, e, b, h _ _ _ q⟩) q
theorem rng2I_mono {wa : WA} (m : MonoA wa) : MonoI (rng2I wa) := fun ρ xq Q Q' h q => m _ _ _ _ (fun av ρ' ⟨i, j, e, b, b2, q⟩ => ⟨i, j, e, b, b2, h _ _ _ q⟩) q
section
variable {G : Wd} {T : Xd} {Wx : WX} {X : Cx} {Ha : Hp} {E : Av} {Fa : Fo} {σ : L2.St} {H H1 : Hp} {ρ : List Sl} {F F1 : Fo} {xq : XQ}
theorem ItD.rng {us : List (Nat × List PyData)} {lo : Int} {n : Nat} : ItD G E σ (Itr lo n) (rngD lo n) us H1 F1 where
  go := fun H W i s hi => by
    unfold rngD at hi
    rw [List.length_map, List.length_range] at hi
    exact hi
  yld := fun H W i x H' s _ hi y => by
    obtain ⟨rfl, rfl⟩ := y
    unfold rngD at hi ⊢
    rw [List.length_map, List.length_range] at hi
    exact ⟨fun a o h => h, .int (lo + i), by rw [List.getElem?_map, List.getElem?_range hi]; rfl, by unfold Has; rfl⟩
  stop := fun H W i s hi _ => by
    unfold rngD at hi
    rw [List.length_map, List.length_range] at hi
    exact hi
theorem tAs.mk {wa : WA} {Q : List V → Hp → Prop} {Q0 : List AV → List Sl → Prop} (m : MonoA wa) (S : St G Ha E Fa σ H ρ F) (xp : XP G T Ha E Fa Wx H F xq) (h : wa ρ xq Q0)
    (k : ∀ avs ρ' vs H' F' f, Q0 avs ρ' → RsA G Ha E Fa σ H F avs ρ' vs H' F' f → Q vs H') : tAs G T Wx wa σ H Q :=
  ⟨Ha, E, Fa, ρ, F, xq, S, xp, m _ _ _ _ (fun avs ρ' q vs H' F' f rs => k avs ρ' vs H' F' f q rs) h⟩
theorem RsA.vw {avs : List AV} {ρ' : List Sl} {vs : List V} {f : List Addr} {ds : List PyData} (q : RsA G Ha E Fa σ H F avs ρ' vs H1 F1 f) (e : allD ρ' avs = some ds) : VwL G.K (Vo (orF E f) F1) H1 ds vs :=
  q.ow.vw (fun i s e => ⟨_, q.st.sl i s e⟩) e
theorem pi_rng1I {tg a : Expr} {p pos : Pos} {wa : WA} (m : MonoA wa) (hg : Gl X "range") (hm : X.mg "range" = none) (ha : PA X [a] (tAs G T Wx wa)) (hs : starEach [a] X.env = [(false, eval a X.env)]) : PI X tg (.Call (.Name "range" p) [a] [] pos) (tI G T Wx (rng1I wa)) := by
  refine ⟨fun pins s σ H R I h' => ?_⟩
  obtain ⟨Ha, E, Fa, ρ, F, xq, S, xp, q⟩ := h'
  refine (pi_range1 hg hm ha hs).run pins s σ H R I ?_
  refine tAs.mk m S xp q fun avs ρ' vs H1 F1 f q0 rs => ?_
  obtain ⟨j, e, b, q0⟩ := q0
  have hv := rs.vw e
  cases hv with
  | cons h1 h2 =>
    cases h2
    rw [Vw.int h1]
    exact ⟨j, rfl, b.1, b.2, q0 _ H1 F1 (rs.st.less fun a h => .inl h) rs.fr .rng⟩
theorem pi_rng2I {tg a b : Expr} {p pos : Pos} {wa : WA} (m : MonoA wa) (hg : Gl X "range") (hm : X.mg "range" = none) (ha : PA X [a, b] (tAs G T Wx wa)) (hs : starEach [a, b] X.env = [(false, eval a X.env), (false, eval b X.env)]) (hs2 : starEach [b] X.env = [(false, eval b X.env)]) :
    PI X tg (.Call (.Name "range" p) [a, b] [] pos) (tI G T Wx (rng2I wa)) := by
  refine ⟨fun pins s σ H R I h' => ?_⟩
  obtain ⟨Ha, E, Fa, ρ, F, xq, S, xp, q⟩ := h'
  refine (pi_range2 hg hm ha hs hs2).run pins s σ H R I ?_
  refine tAs.mk m S xp q fun avs ρ' vs H1 F1 f q0 rs => ?_
  obtain ⟨i, j, e, b, b2, q0⟩ := q0
  have hv := rs.vw e
  cases hv with
  | cons h1 h2 =>
    cases h2 with
    | cons h2 h3 =>
      cases h3
      rw [Vw.int h1, Vw.int h2]
      exact ⟨i, j, rfl, ⟨b.1, b.2, b2.1, b2.2⟩, q0 _ H1 F1 (rs.st.less fun a h => .inl h) rs.fr .rng⟩
end
end Pd

/-! Pd12: enumerate over lists and tuples. -/
namespace Pd
open PySem L2

/-- enumerate(v) is begun -/
theorem meets_enum1 {v : Value} {ob : Obj} {Z : Heap → Prop} (bg : Begins v ob Z) :
    Meets (Builtin.«enumerate.__new__» ⟨[.type "enumerate", v], []⟩) (fun _ R st => Z st.heap ∧
      R (.ok (.ret (.ref (st.heap.push ob).objs.size))) { st with heap := (st.heap.push ob).push { cls := .type "enumerate", data := .fields #[.none, .bool false, .ref st.heap.objs.size, rawInt 0, .none, .none] } }) :=
  .of_wp fun prog w A R st hh => by
    obtain ⟨hp, gs, dr, tk, os⟩ := st
    obtain ⟨hz, hr⟩ := hh
    have hsub := sub_enumerate
    have go : ∀ {A' : Around} {E : Value → Shared → Prop} {Q : Value → Shared → Prop}, Q (.ref hp.objs.size) ⟨hp.push ob, gs, dr, tk, os⟩ → wpAny (model prog w) A' (pyIter v) Q E ⟨hp, gs, dr, tk, os⟩ :=
      fun q => bg.iter prog w _ _ ⟨hp, gs, dr, tk, os⟩ _ hz q
    wp_walk using go
    refine wpAny_stack_any fun stk => wpAny_pure ?_
    split
    · rename_i c _ _ _ _ _
      by_cases hc : (c == Value.type "enumerate") = true
      · rw [hc]
        wp_walk using go
        exact ⟨_, rfl, hr⟩
      · rw [Bool.not_eq_true] at hc
        rw [hc]
        wp_walk using go
        exact ⟨_, rfl, hr⟩
    · wp_walk using go
      exact ⟨_, rfl, hr⟩
theorem call_enum1 {prog : Program} {w : World} {A : Around} {E : Value → Shared → Prop} {s : Shared} {v : Value} {ob : Obj} {Z : Heap → Prop} {Q : Value → Shared → Prop} (bg : Begins v ob Z) (hz : Z s.heap)
    (k : ∀ h', IsEnum h' (s.heap.objs.size + 1) s.heap.objs.size 0 .none → h'.get? s.heap.objs.size = some ob → h'.objs.size = s.heap.objs.size + 2 →
      (∀ b o, s.heap.get? b = some o → h'.get? b = some o) → Q (.ref (s.heap.objs.size + 1)) { s with heap := h' }) :
    wpAny (model prog w) A (call (.type "enumerate") [v]) Q E s := by
  refine callType_new F.called_enumerate (by decide) (F.typeCall_enumerate_1 _) (F.newCall_enumerate_1 _) (fun obj => F.args_object_init_2 obj _) F.entry_enumerate_new (meets_enum1 bg) ⟨hz, ?_⟩
  have sz : (s.heap.push ob).objs.size = s.heap.objs.size + 1 := Heap.size_push ..
  show _ ∧ _
  rw [sz]
  have en : IsEnum ((s.heap.push ob).push { cls := .type "enumerate", data := .fields #[.none, .bool false, .ref s.heap.objs.size, rawInt 0, .none, .none] }) (s.heap.objs.size + 1) s.heap.objs.size 0 .none := by
    have q := Heap.get?_push_size (s.heap.push ob) (o := { cls := .type "enumerate", data := .fields #[.none, .bool false, .ref s.heap.objs.size, rawInt 0, .none, .none] }) rfl
    rw [sz] at q
    exact q
  exact ⟨⟨_, en, rfl⟩, k _ en (Heap.get?_push_of_some _ (Heap.get?_push_size _ bg.free)) (by rw [Heap.size_push, sz]) fun b o x => Heap.get?_push_of_some _ (Heap.get?_push_of_some _ x)⟩
/-- the tuple at a, each item in a new pair -/
def IteT (K : PySem.W.Frag) (a : Addr) : It :=
  ⟨fun i H => ∃ (xs : List V) (x : V), SqT K H a xs ∧ xs[i]? = some x, fun i H v H' => ∃ p x, v = .ref p ∧ H p = none ∧ H' = upd H p (.tup [.int (i : Nat), x]) ∧ ∀ xs, SqT K H a xs → xs[i]? = some x, fun i H => ∃ xs : List V, SqT K H a xs ∧ xs.length ≤ i⟩
theorem tupIter_ne {h : Heap} {it a : Addr} {i : Nat} {its : Array Value} (h1 : h.IsTupleIter it a i) (h2 : h.IsTuple a its) : a ≠ it := by
  rintro rfl
  obtain ⟨o, e, _, d⟩ := h1
  obtain ⟨o', e', _, n, d'⟩ := h2
  rw [e] at e'
  cases e'
  rw [d] at d'
  cases d'
theorem enum_ne {h : Heap} {e it a : Addr} {c : Int} {old : Value} {its : Array Value} (h1 : IsEnum h e it c old) (h2 : h.IsTuple a its) : e ≠ a := by
  rintro rfl
  obtain ⟨o', e', _, n, d'⟩ := h2
  unfold IsEnum at h1
  rw [h1] at e'
  cases e'
  cases d'
theorem turn_enumT {P : Program} {w : World} {K : PySem.W.Frag} {elts : List Expr} {kk : Nat} {tpos : Pos} (a e it : Addr) :
    Turn P w K (.Tuple elts kk tpos) (IteT K a) [e, it] e (fun i h => (∃ old, IsEnum h e it ((i : Nat) : Int) old) ∧ h.IsTupleIter it a i ∧ e ≠ it) where
  mem := by simp
  obj := fun i h st b hb => by
    obtain ⟨⟨old, he⟩, ⟨o, ho, hc, hd⟩, _⟩ := st
    have z : b = e ∨ b = it := by simpa using hb
    rcases z with rfl | rfl
    · exact ⟨_, he, fun v q => nomatch q⟩
    · exact ⟨o, ho, fun v q => by rw [hd] at q; cases q⟩
  keep := fun i h h' st k => by
    obtain ⟨⟨old, he⟩, hi, hne⟩ := st
    exact ⟨⟨old, k e (by simp) _ he⟩, hi.at fun o q => k it (by simp) o q, hne⟩
  item := by
    intro X hP hw hK hc i pins s σ H E I hf st hg
    subst hP hw hK
    obtain ⟨⟨old, he⟩, hit, hne⟩ := st
    obtain ⟨xs, x, hq, hx⟩ := hg
    obtain ⟨its, rv, p, hz⟩ := I.tuple hq
    obtain ⟨u, hu, ru⟩ := rv.get hx
    have tp : s.heap.IsTuple a its.toArray := p
    have hel : e < s.heap.objs.size := Heap.lt_size he
    have hil : it < s.heap.objs.size := by obtain ⟨_, q, _⟩ := hit; exact Heap.lt_size q
    have li : i < its.toArray.size := by
      have := (List.getElem?_eq_some_iff.mp hu).1
      simpa using this
    refine wpAny_pyNext_enum_itemC (Draws.tuple (show X.A.in1.handled = none from I.ok.hd hc) it a (tupIter_ne hit tp) its.toArray) he ⟨hit, tp⟩ li hne ?_ fun y h' tk hP ho hit' hT hsz hk => ?_
    · intro q
      rcases List.mem_cons.mp q with q | q
      · exact hne q
      · exact enum_ne he tp (List.mem_singleton.mp q)
    · have ey : y = u := by
        have hP : its.toArray[i]? = some y := hP
        rw [show its.toArray[i]? = some u by simpa using hu] at hP
        cases hP
        rfl
      subst ey
      refine ⟨_, rfl, wpAny_letOwnedTupleGo_enum (s := { s with heap := h', toks := tk + 1 }) ho fun h'' he' sb => ?_⟩
      have hT2 : h''.get? s.heap.objs.size = some { cls := .type "tuple", data := .seq #[.int i tk, y] } := (sb.2 _ (Nat.ne_of_gt hel)).trans hT
      have new : ObjOk X.prog X.w (upd H s.heap.objs.size (.tup [.int (i : Nat), x])) h'' s.heap.objs.size (.tup [.int (i : Nat), x]) :=
        ⟨by show 2 ≤ sizeLine; decide, [.int i tk, y], .cons ⟨_, rfl⟩ (.cons ru .nil), ⟨_, hT2, rfl, _, rfl⟩⟩
      have I1 : Inv X pins σ (upd H s.heap.objs.size (.tup [.int (i : Nat), x])) { s with heap := h'', toks := tk + 1 } :=
        I.turnedNew (ch := [e, it]) (fun b ob hb q => (sb.2 b (fun z => hb (by simp [z]))).trans (hk b ob (fun z => hb (by simp [z])) (fun z => hb (by simp [z])) q)) hf (Nat.le_refl _) new
      refine ⟨.ref s.heap.objs.size, _, I1, rfl, ⟨_, x, rfl, I.hok.fresh (Nat.le_refl _), rfl, fun ys hy => by rw [I.tuple_inj hy hq]; exact hx⟩, ⟨⟨y, ?_⟩, hit'.1.at fun o q => (sb.2 it (Ne.symm hne)).trans q, hne⟩, fun b hb => ?_⟩
      · have e1 : ((i + 1 : Nat) : Int) = (i : Int) + 1 := by omega
        rw [e1]
        exact he'
      · have hb' : b < s.heap.objs.size := by
          have z : b = e ∨ b = it := by simpa using hb
          rcases z with rfl | rfl
          · exact hel
          · exact hil
        rw [upd_ne (Nat.ne_of_lt hb')]
        exact (hf b hb).1
  done := by
    intro X hP hw hK hc i pins s σ H E I hf st hg
    subst hP hw hK
    obtain ⟨⟨old, he⟩, hit, hne⟩ := st
    obtain ⟨xs, hq, hx⟩ := hg
    obtain ⟨its, rv, p, hz⟩ := I.tuple hq
    have tp : s.heap.IsTuple a its.toArray := p
    obtain ⟨f0, f1, f2, f3, f4, f5⟩ := hf it (by simp)
    have hl := rv.length
    have li : its.toArray.size ≤ i := by simp; omega
    unfold pyNext
    have hT : s.TypeIs (.ref e) "enumerate" := ⟨_, he, rfl⟩
    refine wpAny_bind (wpAny_attempt (wpAny_callSpecial?_slot (name := Str.ofString "__next__") hT F.slot_enumerate_next
      (wpAny_call_entry F.slot_enumerate_next hT F.entry_enumerate_next ?_ (F.args_enumerate_next_1 _))))
    show wpAny _ _ (field (.ref e) 2 >>= _) _ _ _
    refine wpAny_bind (wpAny_field he rfl (x := .ref it) rfl ?_)
    refine wpAny_bind (wpAny_nextOf_tuple_end (I.ok.hd hc) hit tp (Array.getElem?_eq_none li) fun h' x he' hx' => ?_)
    obtain ⟨o, ho, hcx⟩ := hx'
    refine wpAny_bind (wpAny_isInstance (T := "StopIteration") (b := true) ⟨o, ho, hcx⟩ isSubtype_stop ?_)
    exact wpAny_pure ⟨rfl, I.turned (t' := s.toks) (fun b o hb q => he' b o hb q) f0 f1 f3 f4 f5⟩
  self := fun A i s Q E st h => by
    obtain ⟨⟨_, he⟩, _⟩ := st
    exact wpAny_pyIter_enum he h
def iEnumA (K : PySem.W.Frag) (ta : TA) : TI := fun σ H R => ta σ H fun vs H1 => ∃ a, vs = [.ref a] ∧ (((∃ xs, SqL K H1 a xs) ∧ R (Ite K a) H1) ∨ ((∃ xs, SqT K H1 a xs) ∧ R (IteT K a) H1))
theorem pi_enumA {X : Cx} {e : Expr} {ta : TA} {p pos tpos : Pos} {elts : List Expr} {kk : Nat} (hg : Gl X "enumerate") (hm : X.mg "enumerate" = none) (ha : PA X [e] ta) (hs : starEach [e] X.env = [(false, eval e X.env)]) :
    PI X (.Tuple elts kk tpos) (.Call (.Name "enumerate" p) [e] [] pos) (iEnumA X.K ta) := by
  refine ⟨fun pins s σ H R I h => ?_⟩
  refine PyProof.Rows.Call_ (ld_blt I hg hm PyProof.Rows.boot_enumerate (PyProof.Rows.callWith_type1 (thn (ha.run pos pins s σ H _ I h) fun us s1 ⟨vs, H1, I1, r1, q1⟩ => ?_) hs rfl))
  obtain ⟨a, ex, q1⟩ := q1
  subst ex
  cases r1 with
  | cons r rr =>
    cases rr
    cases r
    have fp : ∀ b, b ∈ [s1.heap.objs.size + 1, s1.heap.objs.size] → FpOk X pins H1 b := fun b hb => by
      have z : b = s1.heap.objs.size + 1 ∨ b = s1.heap.objs.size := by simpa using hb
      have hle : s1.heap.objs.size ≤ b := by omega
      exact I1.fpOk hle (I1.hok.fresh hle)
    rcases q1 with ⟨⟨xs, hq⟩, q⟩ | ⟨⟨xs, hq⟩, q⟩
    · obtain ⟨its, rv, p', hz⟩ := I1.list hq
      refine call_enum1 (begins_list a its.toArray) p'.isList fun h' he hit hsz hk => wpAny_pyIter_enum he ?_
      exact ⟨s1.heap.objs.size + 1, [s1.heap.objs.size + 1, s1.heap.objs.size], _, _, H1, rfl, I1.kept (t' := s1.toks) hk, turn_enum a (s1.heap.objs.size + 1) s1.heap.objs.size, ⟨⟨.none, he⟩, ⟨_, hit, rfl, rfl⟩, Nat.succ_ne_self _⟩, fp, q⟩
    · obtain ⟨its, rv, p', hz⟩ := I1.tuple hq
      refine call_enum1 (begins_tuple a its.toArray) (show s1.heap.IsTuple a its.toArray from p') fun h' he hit hsz hk => wpAny_pyIter_enum he ?_
      exact ⟨s1.heap.objs.size + 1, [s1.heap.objs.size + 1, s1.heap.objs.size], _, _, H1, rfl, I1.kept (t' := s1.toks) hk, turn_enumT a (s1.heap.objs.size + 1) s1.heap.objs.size, ⟨⟨.none, he⟩, ⟨_, hit, rfl, rfl⟩, Nat.succ_ne_self _⟩, fp, q⟩

def enumD (k : Nat) : List PyData → List PyData
  | [] => []
  | d :: ds => .tuple [.int (k : Nat), d] :: enumD (k + 1) ds
theorem enumD_len : ∀ {ds : List PyData} {k : Nat}, (enumD k ds).length = ds.length
  | [], _ => rfl
  | d :: ds, k => by unfold enumD; rw [List.length_cons, List.length_cons, enumD_len]
theorem enumD_get : ∀ {ds : List PyData} {k i : Nat} {d : PyData}, ds[i]? = some d → (enumD k ds)[i]? = some (.tuple [.int ((k + i : Nat) : Int), d])
  | [], k, i, d, h => by simp at h
  | c :: ds, k, 0, d, h => by simp at h; subst h; rfl
  | c :: ds, k, i + 1, d, h => by
    show (enumD (k + 1) ds)[i]? = _
    rw [enumD_get (k := k + 1) (i := i) (by simpa using h), show k + 1 + i = k + (i + 1) by omega]
def enumI (wa : WG) : WI := fun ρ xq Q => wa ρ xq fun av ρ' => ∃ ds us, srcOf ρ' av = some (ds, us) ∧ Q (enumD 0 ds) us ρ'
theorem enumI_mono {w : WG} (m : MonoG w) : MonoI (enumI w) := fun ρ xq Q Q' h q => m _ _ _ _ (fun av ρ' ⟨ds, us, e, q⟩ => ⟨ds, us, e, h _ _ _ q⟩) q
section
variable {G : Wd} {T : Xd} {Wx : WX} {X : Cx} {Ha : Hp} {E : Av} {Fa : Fo} {σ : L2.St} {H H1 : Hp} {ρ : List Sl} {F F1 : Fo} {xq : XQ} {us : List (Nat × List PyData)}
theorem pair_has {K : PySem.W.Frag} {W : Av} {x : V} {i : Nat} {d : PyData} {p : Addr} (hp : H p = none) (hW : ∀ a, W a → H a ≠ none) (h : Has K W H d x) : (∀ a o, H a = some o → upd H p (.tup [.int (i : Nat), x]) a = some o) ∧ Has K W (upd H p (.tup [.int (i : Nat), x])) (.tuple [.int (i : Nat), d]) (.ref p) := by
  have kp : ∀ a o, H a = some o → upd H p (.tup [.int (i : Nat), x]) a = some o := fun a o h => by rw [upd_ne (ne_of_none h hp)]; exact h
  refine ⟨kp, ?_⟩
  unfold Has
  exact ⟨(by show 2 ≤ sizeLine; decide), p, _, rfl, ⟨upd_same, fun q => hW p q hp⟩, .cons (by unfold Has; rfl) (.one (Has.mv ⟨fun a o h _ => kp a o h, fun a q => .inl q⟩ _ _ h))⟩
theorem ItD.enumL {a : Addr} {ds : List PyData} (h : ∀ W H, SrcP G E σ us H1 F1 W H → ∃ xs, SqL G.K H a xs ∧ HasL G.K W H ds xs) : ItD G E σ (Ite G.K a) (enumD 0 ds) us H1 F1 where
  go := fun H W i s hi => by
    rw [enumD_len] at hi
    obtain ⟨xs, q, hl⟩ := h W H s
    obtain ⟨x, e, _⟩ := hl.get (i := i) (d := ds[i]) (by simp [hi])
    exact ⟨xs, x, q, e⟩
  yld := fun H W i x H' s hW _ y => by
    obtain ⟨xs, q, hl⟩ := h W H s
    obtain ⟨p, x, rfl, hp, rfl, y⟩ := y
    obtain ⟨d, e, hx⟩ := hl.get' (y xs q)
    obtain ⟨kp, hh⟩ := pair_has (i := i) hp hW hx
    exact ⟨kp, _, by rw [enumD_get e, Nat.zero_add], hh⟩
  stop := fun H W i s hi _ => by
    rw [enumD_len] at hi
    obtain ⟨xs, q, hl⟩ := h W H s
    exact ⟨xs, q, by rw [hl.length]; exact hi⟩
theorem ItD.enumT {a : Addr} {ds : List PyData} (h : ∀ W H, SrcP G E σ us H1 F1 W H → ∃ xs, SqT G.K H a xs ∧ HasL G.K W H ds xs) : ItD G E σ (IteT G.K a) (enumD 0 ds) us H1 F1 where
  go := fun H W i s hi => by
    rw [enumD_len] at hi
    obtain ⟨xs, q, hl⟩ := h W H s
    obtain ⟨x, e, _⟩ := hl.get (i := i) (d := ds[i]) (by simp [hi])
    exact ⟨xs, x, q, e⟩
  yld := fun H W i x H' s hW _ y => by
    obtain ⟨xs, q, hl⟩ := h W H s
    obtain ⟨p, x, rfl, hp, rfl, y⟩ := y
    obtain ⟨d, e, hx⟩ := hl.get' (y xs q)
    obtain ⟨kp, hh⟩ := pair_has (i := i) hp hW hx
    exact ⟨kp, _, by rw [enumD_get e, Nat.zero_add], hh⟩
  stop := fun H W i s hi _ => by
    rw [enumD_len] at hi
    obtain ⟨xs, q, hl⟩ := h W H s
    exact ⟨xs, q, by rw [hl.length]; exact hi⟩
/-- one held argument -/
theorem pa_oneG {e : Expr} {w : WG} (m : MonoG w) (h : PE X e (tG G T Wx w)) (hs : starEach [e] X.env = (false, eval e X.env) :: starEach [] X.env) : PA X [e] (tAs G T Wx (seqA [w])) :=
  pa_seq_cons m (seqA_mono (fun g hg => nomatch hg)) h pa_seq_nil hs
theorem pi_enumI {e : Expr} {w : WG} {p pos tpos : Pos} {elts : List Expr} {kk : Nat} (m : MonoG w) (hK : X.K = G.K) (hg : Gl X "enumerate") (hm : X.mg "enumerate" = none) (h : PE X e (tG G T Wx w)) (hs : starEach [e] X.env = [(false, eval e X.env)]) :
    PI X (.Tuple elts kk tpos) (.Call (.Name "enumerate" p) [e] [] pos) (tI G T Wx (enumI w)) := by
  refine ⟨fun pins s σ H R I h' => ?_⟩
  obtain ⟨Ha, E, Fa, ρ, F, xq, S, xp, q⟩ := h'
  refine (pi_enumA hg hm (pa_cons h pa_nil hs) hs).run pins s σ H R I ?_
  refine tG.mk m S xp q fun av ρ' v H1 F1 f q0 rs => ?_
  obtain ⟨ds, us, e, q0⟩ := q0
  have S1 := rs.st.less (E' := E) fun a h => .inl h
  obtain ⟨a, rfl, src⟩ := srcOf_ok S1 rs.ow (fun a h => h.imp .inl id) (rs.off S) e
  have self := S1.self (srcOf_us e)
  refine ⟨a, rfl, ?_⟩
  rw [hK]
  rcases src with src | src
  · obtain ⟨xs, hq, _⟩ := src _ _ self
    exact .inl ⟨⟨xs, hq⟩, q0 _ H1 F1 S1 rs.fr (.enumL src)⟩
  · obtain ⟨xs, hq, _⟩ := src _ _ self
    exact .inr ⟨⟨xs, hq⟩, q0 _ H1 F1 S1 rs.fr (.enumT src)⟩
end
end Pd

/-! Pd13: the theorem of a def, the law's end. -/
namespace Pd
open PySem L2 PyProof.Rows

section
variable {G : Wd} {T : Xd} {H : Hp} {E : Av} {Fc : Fo} {vs : List V} {as : List Sl}
theorem St.fin_in {H' : Hp} {os : List Sl} {F' : Fo} {f : List Addr} {σ' : L2.St} {ρ' : List Sl} (S0 : St G H E Fc (vs.map some) H as Fc) (S : St G H (orF E f) Fc σ' H' ρ' F') (e : outsOf ρ' 0 as = some os) {a : Addr} (h : InF Fc a) : InF F' a := by
  obtain ⟨i, h⟩ := h
  by_cases hi : i < as.length
  · obtain ⟨l, g⟩ := outsOf_get e
    have ho : os[i]? = some (os[i]'(by rw [l]; exact hi)) := by simp
    have ha : as[i]? = some as[i] := by simp [hi]
    by_cases n : as[i].val
    · rw [S0.valF ha n] at h; cases h
    · have q := g i _ _ ha ho
      rw [Nat.zero_add] at q
      obtain ⟨_, _, z⟩ := outSl_kind q
      exact ⟨i, by rw [S.bo i _ (z n).1 (z n).2]; exact h⟩
  · rw [S0.nof i (by omega)] at h; cases h
end
theorem FnG.imp {P : Program} {w : World} {K : PySem.W.Frag} {mg : Str → Option Value} {base : Heap} {k n : Nat} {f : Addr} {fd : FuncData} {ps : List Str} {G : Wd} {T : Xd} {φ φ' : Spc} (F : FnG P w K mg base k f fd n ps (spOf G T φ)) (h : ∀ as Q E, φ' as Q E → φ as Q E) : FnG P w K mg base k f fd n ps (spOf G T φ') :=
  ⟨fun A outer s H args us vs Q E hr hg e0 hn hb r ⟨E', Fc, as, la, sh, S0, q⟩ => F.run A outer s H args us vs Q E hr hg e0 hn hb r ⟨E', Fc, as, la, sh, S0, h _ _ _ q⟩⟩
theorem FnG.mono {P : Program} {w : World} {K : PySem.W.Frag} {mg : Str → Option Value} {base : Heap} {j k n : Nat} {f : Addr} {fd : FuncData} {ps : List Str} {sp : Sp} (F : FnG P w K mg base j f fd n ps sp) (h : j ≤ k) : FnG P w K mg base k f fd n ps sp :=
  ⟨fun A outer s H args us vs Q E hr => F.run A outer s H args us vs Q E (hr.mono h)⟩
theorem tS.of {G : Wd} {T : Xd} {Wx : WX} {w : WS} {ρ : List Sl} {P : Po} {Ha : Hp} {E : Av} {Fa F : Fo} {σ : L2.St} {H : Hp} {D : Ends} (h : w ρ P) (S : St G Ha E Fa σ H ρ F) (e : EndsOk G T Ha E Fa Wx ρ.length H F P D) : tS G T Wx w D σ H :=
  ⟨Ha, E, Fa, ρ, F, P, S, e, h⟩
/-- a def's own context -/
abbrev cxD (P : Program) (w : World) (K : PySem.W.Frag) (mg : Str → Option Value) (base : Heap) (N : List Str) (qual : Str) (sc : Scope) (f : Addr) (cd : Value) (A : Around) (outer : List Env) (s : Shared) (H : Hp) (E : XK) : Cx :=
  cxOf (L2.CX P w) P w K mg base N qual sc f cd A outer s H E
/-- what the rules ask of the place where a body runs -/
structure Plc (G : Wd) (k : Nat) (Wx : WX) (X : Cx) : Prop where
  room : Room k X.A
  gd : X.A.guards = some []
  tk : Takes X Wx
  K : X.K = G.K
  calm : X.calm = true
  pass : PassesOwn (model X.prog X.w) X.A X.env X.xe
theorem Plc.un {G : Wd} {k : Nat} {Wx : WX} {X : Cx} (p : Plc G k Wx X) : X.A.units + 150 < cLine := by
  have := p.room.un
  omega
theorem Plc.blk {G : Wd} {k : Nat} {Wx : WX} {X : Cx} (p : Plc G k Wx X) (s : Shared) (H : Hp) (sc : Scope) (cenv : Env) (fp : List Addr) : Plc G k (fun _ _ _ _ => False) (X.blk s H sc cenv fp) :=
  ⟨p.room, p.gd, takes0, p.K, p.calm, .never⟩
theorem fn_raw {P : Program} {w : World} {K : PySem.W.Frag} {mg : Str → Option Value} {base : Heap} {k n : Nat} {f : Addr} {fd : FuncData} {x qual : Str} {st : Stmt} {N ps : List Str} {G : Wd} {sp : Sp} (F : Fun K x qual st f fd) (S : FnScope N ps (defScope st)) (hK : K = G.K) (hn : ps.length = n)
    (hb : ∀ (cdv : Value) (A : Around) (outer : List Env) (s : Shared) (H : Hp) (vs : List V) (Q : VK) (E : XK), Plc G k (fun cls d _ H => E cls d H) (cxD P w K mg base N qual (defScope st) f cdv A outer s H E) → vs.length = n → sp vs H Q E →
      ∃ t, PSs (cxD P w K mg base N qual (defScope st) f cdv A outer s H E) (defBody st) t ∧ t { nx := fun _ H' => Q .non H', rt := Q } (L2.start N vs) H) :
    FnG P w K mg base (k + 1) f fd n ps sp := by
  obtain ⟨oc, od, kV, doc, pm, an, cdv, ct, osl, rfl, lk, hcd⟩ := F.ex
  refine ⟨fun A outer s H args us vs Q Ex hr hgd e0 hl hbd r hsp => ?_⟩
  have KX : K.In s.heap := e0.mod.kin.keeps fun b o e => (e0.bs b o e).1
  have lim : s.heap.NoLimit := e0.mod.nolimit.keeps fun b o e => (e0.bs b o e).1
  have hkind : ∀ y ∈ ps.zip us, (defScope st).names.lookup y.1 = some .local ∨ ((defScope st).names.lookup y.1 = some .cell ∧ ((cellsFrom (s.heap.objs.size + 1) (defScope st).names []).lookup y.1).isSome = true) := fun ⟨n, v⟩ hy => by
    rcases S.par n (List.of_mem_zip hy).1 with q | q
    · exact .inl q
    · exact .inr ⟨q, PySem.W.cellsFrom_some _ _ _ (.inl q)⟩
  refine codeAny_call_function hr.depth (KX _ _ lk) rfl S.co S.gen rfl (PySem.W.codeRec_of KX hcd) (hbd _ _ _ _ ?_)
  refine wpAny_newFunctionEnv_cells S.kind hkind fun env he s1 xx => ?_
  subst he
  refine ⟨lim.keeps xx.toInCall.keep, codeAny_func ?_⟩
  have I : Inv (cxD P w K mg base N qual (defScope st) f cdv A outer s H Ex) [] (L2.start N vs) H s1 := inv_start S hr.hd e0 (hl.trans hn.symm) r xx
  have tk : Takes (cxD P w K mg base N qual (defScope st) f cdv A outer s H Ex) (fun cls d _ H => Ex cls d H) := takes_of rfl rfl rfl rfl
  have pl : Plc G k (fun cls d _ H => Ex cls d H) (cxD P w K mg base N qual (defScope st) f cdv A outer s H Ex) := ⟨hr.deeper _, hgd, tk, hK, rfl, passes_of rfl⟩
  obtain ⟨t, ht, hq⟩ := hb cdv A outer s H vs Q Ex pl hl hsp
  refine wpAny_mono (ht.run [] s1 (L2.start N vs) H _ I hq) (fun fl s' hs => ?_) fun e s' hs => hs
  have fin : ∀ {σ' : L2.St} {H' : Hp} {v : V} {u : Value}, Inv (cxD P w K mg base N qual (defScope st) f cdv A outer s H Ex) [] σ' H' s' → RelV v u → Q v H' → CE outer P w H s Q u s' :=
    fun {σ' H' v u} J rv z => ⟨v, H', J.os, J.bare, J.base, J.hok, rv, z⟩
  cases fl with
  | ret u =>
    obtain ⟨v, σ', H', J, rv, z⟩ := hs
    exact fin J rv z
  | next =>
    obtain ⟨σ', H', J, z⟩ := hs
    exact fin (v := V.non) (u := Value.none) J rfl z
  | brk =>
    obtain ⟨_, _, _, z⟩ := hs
    exact False.elim z
  | cont =>
    obtain ⟨_, _, _, z⟩ := hs
    exact False.elim z
theorem fn_body {P : Program} {w : World} {K : PySem.W.Frag} {mg : Str → Option Value} {base : Heap} {k m n : Nat} {f : Addr} {fd : FuncData} {x qual : Str} {st : Stmt} {N ps : List Str} {G : Wd} {T : Xd} {wb : WS} (F : Fun K x qual st f fd) (S : FnScope N ps (defScope st)) (hK : K = G.K) (hm : N.length = n + m) (hn : ps.length = n)
    (hb : ∀ (cdv : Value) (A : Around) (outer : List Env) (s : Shared) (H : Hp) (E : XK), Plc G k (fun cls d _ H => E cls d H) (cxD P w K mg base N qual (defScope st) f cdv A outer s H E) → PSs (cxD P w K mg base N qual (defScope st) f cdv A outer s H E) (defBody st) (tS G T (fun cls d _ H => E cls d H) wb)) :
    FnG P w K mg base (k + 1) f fd n ps (spOf G T (body m wb)) := by
  refine fn_raw F S hK hn fun cdv A outer s H vs Q Ex pl hl hsp => ⟨_, hb cdv A outer s H Ex pl, ?_⟩
  obtain ⟨E, Fc, as, la, sh, S0, q⟩ := hsp
  have es : L2.start N vs = vs.map some ++ List.replicate m none := by
    unfold L2.start
    rw [hl, hm, Nat.add_sub_cancel_left]
  rw [es]
  unfold body at q
  refine tS.of q (S0.begin m) ?_
  refine ⟨fun ρ' σ' H' F' S' fr z => ?_, fun _ _ _ _ _ _ z => z.elim, fun _ _ _ _ _ _ z => z.elim, fun rr ρ' σ' v H' F' g S' fr o na z => ?_, fun xc ρ' cls d σ' H' F' S' fr xo z => ?_⟩
  · obtain ⟨os, eo, z⟩ := z
    obtain ⟨S2, kd⟩ := St.finish S0 sh S'.orNil (fun a h => (by cases h)) eo
    exact z .non H' [] ⟨S2, ⟨rfl, by unfold Has; rfl⟩, fun a h => (by cases h), kd⟩
  · obtain ⟨os, eo, z⟩ := z
    obtain ⟨S2, kd⟩ := St.finish S0 sh S' na eo
    exact z v H' g ⟨S2, Ow.mv ⟨fun _ _ h _ => h, fun a h => .inl (h.imp id fun h => S0.fin_in S' eo h)⟩ (fun _ _ => rfl) o, na, kd⟩
  · obtain ⟨os, eo, z⟩ := z
    obtain ⟨S2, kd⟩ := St.finish (f := []) S0 sh S'.orNil (fun a h => (by cases h)) eo
    exact z cls d H' (S2.less fun a h => .inl h) kd (xo.mv (H' := H') fun a h => h.imp id fun h => S0.fin_in S'.orNil eo h)

/-! ### the law -/
theorem sp_law {G : Wd} {T : Xd} {φ : Spc} {H : Hp} {a : Addr} {ns : List Int} (hO : Only H) (hS : SqL G.K H a (ns.map V.int)) (h : φ [.scr ns] (fun r _ => r = .sh (.bool true)) fun _ _ => False) (mφ : MonoS φ) : spOf G T φ [.ref a] H (fun v _ => v = .bl true) fun _ _ _ => False := by
  refine ⟨fun _ => False, fun _ => [], [.scr ns], rfl, fun s hs _ => ?_, ⟨rfl, fun i s e => ?_, fun _ _ => rfl, fun i j b h => (by cases h), fun b ⟨i, h⟩ => (by cases h), fun b h => h.elim, .refl _ _, fun _ _ _ _ => rfl, fun i s e hb b hb' => (by cases hb')⟩, mφ _ _ _ _ _ (fun r o e v H' f t => ?_) (fun _ _ h => h.elim) h⟩
  · rw [List.mem_singleton.mp hs]
    exact trivial
  · cases i with
    | zero =>
      cases e
      refine ⟨.ref a, rfl, rfl, a, rfl, ?_⟩
      rcases hS with (q | ⟨o, q⟩) | q
      · rcases hO a with z | ⟨o, xs, z⟩
        · rw [q] at z; cases z
        · rw [q] at z; cases z
      · exact .inl ⟨o, q, fun z => by
          rcases z with z | ⟨i, z⟩
          · exact z
          · cases z⟩
      · exact .inr q
    | succ i => cases e
  · subst e
    have o := t.ow.2
    unfold Has at o
    exact o
theorem law_callG {P : Program} {w : World} {K : PySem.W.Frag} {mg mb : Str → Option Value} {k : Nat} {fa a : Addr} {fd : FuncData} {x : Str} {sp : Sp} {st : Shared} {vs : List Value} {ns : List Int}
    (KX : K.In st.heap) (hns : st.heap.Ns mainGlobals mg) (hb : st.heap.Ns builtinsNs mb) (hbb : ∀ x : Str, x ≠ "__name__" → mb x = bootBuiltins x) (hlim : st.heap.NoLimit) (hg : st.gens = #[])
    (ha : st.heap.get? a = some { cls := .type "list", data := .seq vs.toArray }) (hi : IntsAre vs ns) (hl : ns.length ≤ sizeLine) (hr : Room k callerA)
    (F : ∀ base : Heap, K.In base → base.Ns mainGlobals mg → FnG P w K mg base k fa fd 1 [x] sp) (hbind : ∀ (s : Shared) (u : Value), BindsTo s fd ⟨[u], []⟩ [(x, u)])
    (hsp : ∀ H : Hp, Only H → SqL K H a (ns.map V.int) → sp [.ref a] H (fun v _ => v = .bl true) fun _ _ _ => False) :
    codeAny (model P w) callerA (.call (.ref fa) ⟨[.ref a], []⟩) (fun r s' => r = .ok (.ret (.bool true)) ∧ OldK st.heap s'.heap ∧ s'.os = st.os ∧ AllBare s'.gens) st := by
  have rv := vals_ints hi
  have lenV := hi.length
  have main : ∀ H : Hp, Only H → SqL K H a (ns.map V.int) → HOk P w H st.heap → (∀ b, H b ≠ none → b = a) → (H a ≠ none → K.lookup a = none) →
      codeAny (model P w) callerA (.call (.ref fa) ⟨[.ref a], []⟩) (fun r s' => r = .ok (.ret (.bool true)) ∧ OldK st.heap s'.heap ∧ s'.os = st.os ∧ AllBare s'.gens) st := by
    intro H hO hS hok hA hK
    have low : ∀ {b : Addr} {o : Obj}, st.heap.get? b = some o → H b = none → (hidT st.heap H).get? b = some o := fun e n => hidT_get e n
    have off : ∀ {b : Addr} {o : Obj} {es : Array DictEntry} {ep : Nat}, st.heap.get? b = some o → o.data = .dict es ep → H b = none := fun {b o es ep} e d => by
      cases q : H b with
      | none => rfl
      | some u =>
        obtain rfl : b = a := hA b (by rw [q]; simp)
        rw [ha] at e
        cases e
        exact nomatch (show Data.seq vs.toArray _ = Data.dict es ep from d)
    have nsH : ∀ {b : Addr} {m : Str → Option Value}, st.heap.Ns b m → (hidT st.heap H).Ns b m := fun {b m} ⟨o, es, ep, e, d, r⟩ => ⟨o, es, ep, low e (off e d), d, r⟩
    have KH : K.In (hidT st.heap H) := fun b o e => low (KX b o e) (by
      cases q : H b with
      | none => rfl
      | some u =>
        obtain rfl : b = a := hA b (by rw [q]; simp)
        rw [hK (by rw [q]; simp)] at e
        cases e)
    have md : Mod K mg (hidT st.heap H) := by
      obtain ⟨mc, h1, h2⟩ := hlim
      exact ⟨KH, nsH hns, ⟨mb, nsH hb, hbb⟩, mc, nsH h1, h2⟩
    have e0 : Env0 P w K mg (hidT st.heap H) callerA [] st H := ⟨rfl, md, fun b o e => of_hidT e, Nat.le_of_eq (hidT_size _ _), trivial, fun b hb => (nomatch (show b ∈ ([] : List Addr) from hb)), hok, .of_eq hg⟩
    refine codeAny_mono ((F _ KH (nsH hns)).run callerA [] st H ⟨[.ref a], []⟩ [.ref a] [.ref a] _ _ hr rfl e0 rfl (hbind st (.ref a)) (.cons rfl .nil) (hsp H hO hS)) fun r s' h => ?_
    cases r with
    | error e =>
      obtain ⟨_, _, _, _, _, _, _, _, _, _, _, _, z⟩ := h
      exact z.elim
    | ok fl =>
      cases fl with
      | next => exact False.elim h
      | brk => exact False.elim h
      | cont => exact False.elim h
      | ret u =>
        obtain ⟨v, H', os, bare, un, hok', r', rfl⟩ := h
        obtain rfl : u = Value.bool true := r'
        refine ⟨rfl, OldK.of_keep fun b o e => ?_, os, bare⟩
        rcases hO b with z | ⟨ob, xs, z⟩
        · exact un.keep b o e z (fun q => (nomatch (show b ∈ ([] : List Addr) from q))) (by simp)
        · obtain ⟨e1, _⟩ := hok b _ z
          obtain ⟨e2, _⟩ := hok' b _ (un.frzs b ob _ z)
          rw [e] at e1
          cases e1
          exact e2
  cases hk : K.lookup a with
  | some o =>
    have e := KX a o hk
    rw [ha] at e
    cases e
    exact main (fun _ => none) (fun _ => .inl rfl) (.inr ⟨_, vs.toArray, _, hk, rfl, rfl, rfl, by rw [List.size_toArray, lenV]; exact hl, by simpa using rv⟩) (fun b u z => nomatch (show (none : Option HO) = some u from z)) (fun b z => absurd rfl z) fun z => absurd rfl z
  | none =>
    refine main (fun b => if b = a then some (.frz { cls := .type "list", data := .seq vs.toArray } (.lst (ns.map V.int))) else none) (fun b => ?_) (.inl (.inr ⟨{ cls := .type "list", data := .seq vs.toArray }, if_pos rfl⟩)) (fun b u z => ?_) (fun b z => ?_) fun _ => hk
    · by_cases e : b = a
      · exact .inr ⟨_, _, if_pos e⟩
      · exact .inl (if_neg e)
    · by_cases e : b = a
      · have z2 := (if_pos e).symm.trans z
        cases z2
        rw [e]
        exact ⟨ha, by rw [List.length_map]; exact hl, vs, _, rv, ha⟩
      · have z2 := (if_neg e).symm.trans z
        cases z2
    · by_cases e : b = a
      · exact e
      · exact absurd (if_neg e) z
theorem walkG {l : PySem.W.OpenLaw} {n k : Nat} {q : Program} {loose : List Str} {XP : (Str → Option Value) → Heap → Prop} {YP : World → Heap → Prop} {d : DefRec} {K : Params → PySem.W.Frag} {x : Str} {Gw : World → Wd} {T : World → Xd} {φ : Spc}
    (hn : l.most = some n) (hn2 : n ≤ sizeLine) (hdf : d.params.defaults = []) (hr : Room k callerA) (hG : ∀ w, K w.params = (Gw w).K)
    (hY : ∀ (w : World) (h : Heap), YP w h → (K w.params).In h) (mφ : MonoS φ)
    (F : ∀ (w : World) (mg : Str → Option Value) (fa : Addr) (h : Heap), (K w.params).In h → h.Ns mainGlobals mg → mg d.name = some (.ref fa) →
      ∃ fd : FuncData, (∀ (s : Shared) (u : Value), BindsTo s fd ⟨[u], []⟩ [(x, u)]) ∧
        ∀ base : Heap, (K w.params).In base → base.Ns mainGlobals mg → FnG l.prog w (K w.params) mg base k fa fd 1 [x] (spOf (Gw w) (T w) φ))
    (hsp : ∀ ns : List Int, ns.length ≤ n → φ [.scr ns] (fun r _ => r = .sh (.bool true)) fun _ _ => False) :
    PySem.W.WalkO q loose XP YP l.row.toRowW d [] (fun f vs => PySem.call f vs) := by
  refine Att.attach_call hn hdf fun w s₀ s₁ mg mb fa o pm cd doc a vs ns G Y ho hd hcd hmg hobj hints hlen hg => ?_
  have KX := hY w _ Y
  obtain ⟨fd, hb, hF⟩ := F w mg fa _ KX G.T.g hmg
  exact law_callG KX G.T.g G.T.b G.T.builtins G.T.nolimit hg hobj hints (Nat.le_trans hlen hn2) hr hF hb fun H hO hS => sp_law hO (by rw [← hG]; exact hS) (hsp ns hlen) mφ
end Pd

/-! Pd14: slices, ranges as values, stores of several names, stores at places, methods of one's own lists. -/
namespace Pd
open PySem L2 PyProof.Rows

/-! ### ints as arguments -/
def intG (w : WE) : WG := fun ρ xq Q => w ρ xq fun r ρ' => ∃ i, r = .sh (.int i) ∧ Q (.rv (.sh (.int i))) ρ'
theorem intG_mono {w : WE} (m : MonoE w) : MonoG (intG w) := fun ρ xq Q Q' h q => m _ _ _ _ (fun r ρ' ⟨i, e, q⟩ => ⟨i, e, h _ _ q⟩) q
def partG : Option WE → WG
  | none => ofE (conE .none)
  | some w => intG w
def MonoO : Option WE → Prop
  | none => True
  | some w => MonoE w
theorem partG_mono : ∀ {w : Option WE}, MonoO w → MonoG (partG w)
  | none, _ => ofE_mono conE_mono
  | some w, m => intG_mono m
def optD : Option Int → PyData
  | none => .none
  | some i => .int i
def tPO (G : Wd) (T : Xd) (Wx : WX) : Option WE → TO
  | none => tNoPart
  | some w => tPart (tE G T Wx w)
def cutD (l : List PyData) (lo hi : Option Int) : List PyData := (l.drop (HT.sIx l.length 0 lo)).take (HT.sIx l.length l.length hi - HT.sIx l.length 0 lo)
theorem cutD_len {l : List PyData} {lo hi : Option Int} : (cutD l lo hi).length ≤ l.length := by
  unfold cutD
  rw [List.length_take, List.length_drop]
  omega
def partD : PyData → Option (Option Int)
  | .none => some none
  | .int i => some (some i)
  | _ => none
theorem partD_opt {o : Option Int} : partD (optD o) = some o := by cases o <;> rfl
def pSl : PwP := fun ds Q => match ds with
  | [.list l, a, b] => ∃ lo hi, partD a = some lo ∧ partD b = some hi ∧ Q (.ol (cutD l lo hi))
  | [.tuple l, a, b] => ∃ lo hi, partD a = some lo ∧ partD b = some hi ∧ Q (.sh (.tuple (cutD l lo hi)))
  | _ => False
theorem pSl_mono : MonoP pSl := by
  intro ds Q Q' h q
  unfold pSl at q ⊢
  split at q
  · obtain ⟨lo, hi, e1, e2, q⟩ := q
    exact ⟨lo, hi, e1, e2, h _ q⟩
  · obtain ⟨lo, hi, e1, e2, q⟩ := q
    exact ⟨lo, hi, e1, e2, h _ q⟩
  · exact q
def rSl (G : Wd) : V → Option Int → Option Int → Hp → VK → Prop := fun x lo hi H Q => ∃ W d, (∀ a, W a → H a ≠ none) ∧ Vw G.K W H d x ∧ pSl [d, optD lo, optD hi] fun r => ∀ v H' f, New G W H r v H' f → Q v H'
section
variable {G : Wd} {T : Xd} {Wx : WX} {X : Cx} {Ha : Hp} {E : Av} {Fa : Fo} {σ : L2.St} {H H1 : Hp} {ρ : List Sl} {F F1 : Fo} {xq : XQ} {W : Av}
theorem HasL.cut {K : PySem.W.Frag} {l : List PyData} {xs : List V} (h : HasL K W H l xs) (lo hi : Option Int) : HasL K W H (cutD l lo hi) (cutV xs lo hi) := by
  unfold cutD cutV
  rw [h.length]
  exact (h.drop _).take _
theorem sl_data (hK : X.K = G.K) : SlR X (rSl G) := by
  intro pins s σ H x v vl vu lo hi sl Q I rx hs pl pu h
  obtain ⟨W, d, hW, hd, h⟩ := h
  cases d with
  | list l =>
    obtain ⟨a, b, e1, e2, q⟩ := h
    rw [partD_opt] at e1 e2
    cases e1
    cases e2
    obtain ⟨z, p, xs, rfl, h1, h2⟩ := hd
    refine sl_list pins s σ H _ v vl vu lo hi sl Q I rx hs pl pu ⟨p, xs, rfl, by rw [hK]; exact .of h1, fun p hp => ?_⟩
    exact q _ _ [p] (.lst hW hp (Nat.le_trans cutD_len z) (h2.cut lo hi))
  | tuple l =>
    obtain ⟨a, b, e1, e2, q⟩ := h
    rw [partD_opt] at e1 e2
    cases e1
    cases e2
    unfold Vw Has at hd
    obtain ⟨z, p, xs, rfl, h1, h2⟩ := hd
    refine sl_tupA pins s σ H _ v vl vu lo hi sl Q I rx hs pl pu ⟨p, xs, rfl, by rw [hK]; exact h1.sq, fun w => ?_, fun _ p hp => ?_⟩
    · refine q _ _ [] (.same ?_)
      have e : cutD l lo hi = l := by
        rw [h2.length] at w
        unfold cutD
        rw [w.1, w.2, List.drop_zero, Nat.sub_zero, List.take_length]
      rw [e]
      unfold Has
      exact ⟨z, _, xs, rfl, h1, h2⟩
    · exact q _ _ [] (.tup hW hp (Nat.le_trans cutD_len z) (h2.cut lo hi))
  | _ => exact h.elim
theorem part_go {w : Option WE} {Q : Option Int → Hp → Prop} {Q0 : AV → List Sl → Prop} (m : MonoO w) (S : St G Ha E Fa σ H ρ F) (xp : XP G T Ha E Fa Wx H F xq) (h : partG w ρ xq Q0)
    (k : ∀ o ρ' v H' F' f, Q0 (.rv (.sh (optD o))) ρ' → Rs G Ha E Fa σ H F (.rv (.sh (optD o))) ρ' v H' F' f → Q o H') : tPO G T Wx w σ H Q := by
  cases w with
  | none => exact k none ρ .non H F [] h (.here S (by unfold optD Has; rfl))
  | some w =>
    refine tE.mk m S xp h fun r ρ' v H' F' f q rs => ?_
    obtain ⟨i, rfl, q⟩ := q
    have hv := rs.bare.2.2
    unfold Has at hv
    exact ⟨i, hv, k (some i) ρ' v H' F' f q rs⟩
theorem pe_slE {e : Expr} {lo hi : Option Expr} {pos p2 : Pos} {wg : WG} {wl wh : Option WE} (mg : MonoG wg) (ml : MonoO wl) (mh : MonoO wh) (hK : X.K = G.K) (he : PE X e (tG G T Wx wg)) (hl : PO X lo (tPO G T Wx wl)) (hh : PO X hi (tPO G T Wx wh)) :
    PE X (.Subscript e (.Slice lo hi none p2) pos) (tE G T Wx (primW pSl (seqA [wg, partG wl, partG wh]))) := by
  refine ⟨fun pins s σ H Q I h => ?_⟩
  obtain ⟨Ha, E, Fa, ρ, F, xq, S, xp, h⟩ := h
  refine (pe_slice (sl_data (G := G) hK) he hl hh).run pins s σ H Q I ?_
  refine tG.mk mg S xp h fun av ρ1 v1 H1 F1 f1 q1 r1 => ?_
  refine part_go ml r1.st ((xp.step r1.fr).more fun a h => .inl h) q1 fun a ρ2 v2 H2 F2 f2 q2 r2 => ?_
  refine part_go mh r2.st ((((xp.step r1.fr).more fun a h => .inl h).step r2.fr).more fun a h => .inl h) q2 fun b ρ3 v3 H3 F3 f3 q3 r3 => ?_
  obtain ⟨ds, e, q3⟩ := q3
  have RA := RsA.cons S r1 (.cons r1.st r2 (.cons r2.st r3 (.nil r3.st)))
  have vw := RA.vw e
  have e' : ∃ d, ds = [d, optD a, optD b] := by
    unfold allD at e
    cases q : av.d ρ3 with
    | none => rw [q] at e; cases e
    | some d =>
      rw [q] at e
      cases e
      exact ⟨d, rfl⟩
  obtain ⟨d, rfl⟩ := e'
  cases vw with
  | cons h1 h2 =>
    refine ⟨_, d, fun a => RA.st.vo, h1, pSl_mono _ _ _ (fun r z v H' f n => ?_) q3⟩
    exact z v H' F3 f (n.rs RA)
/-! ### ranges as values -/
def rgArg : List PyData → Option (Int × Int)
  | [.int j] => some (0, j)
  | [.int i, .int j] => some (i, j)
  | _ => none
def pTupRg : PwP := fun ds Q => ∃ i j, rgArg ds = some (i, j) ∧ RgOk i j ∧ Q (.sh (.tuple (rngD i (j - i).toNat)))
def pLstRg : PwP := fun ds Q => ∃ i j, rgArg ds = some (i, j) ∧ RgOk i j ∧ Q (.ol (rngD i (j - i).toNat))
theorem pTupRg_mono : MonoP pTupRg := fun ds Q Q' h ⟨i, j, e, b, q⟩ => ⟨i, j, e, b, h _ q⟩
theorem pLstRg_mono : MonoP pLstRg := fun ds Q Q' h ⟨i, j, e, b, q⟩ => ⟨i, j, e, b, h _ q⟩
/-- an expression that makes a range of what the arguments are -/
def RgE (G : Wd) (T : Xd) (Wx : WX) (X : Cx) (e : Expr) (wa : WA) : Prop := MonoA wa ∧ ∃ t, PRg X e t ∧ ∀ (Ha : Hp) (E : Av) (Fa : Fo) (σ : L2.St) (H : Hp) (ρ : List Sl) (F : Fo) (xq : XQ) (Q : Int → Int → Hp → Prop) (Q0 : List AV → List Sl → Prop), St G Ha E Fa σ H ρ F → XP G T Ha E Fa Wx H F xq → wa ρ xq Q0 →
  (∀ avs ρ' i j H' F', Q0 avs ρ' → allD ρ' avs = some (if avs.length = 1 then [PyData.int j] else [.int i, .int j]) → (avs.length = 1 → i = 0) → St G Ha E Fa σ H' ρ' F' → Fr H F H' F' → Q i j H') → t σ H Q
theorem rg_1 {a : Expr} {p pos : Pos} {w : WE} (m : MonoE w) (hg : Gl X "range") (hm : X.mg "range" = none) (ha : PE X a (tE G T Wx w)) (na : starEach [a] X.env = (false, eval a X.env) :: starEach [] X.env) : RgE G T Wx X (.Call (.Name "range" p) [a] [] pos) (seqA [intG w]) := by
  refine ⟨seqA_mono fun g hg => by rw [List.mem_singleton.mp hg]; exact intG_mono m, _, prg_1 hg hm ha na, fun Ha E Fa σ H ρ F xq Q Q0 S xp h k => ?_⟩
  refine tE.mk m S xp h fun r ρ1 v1 H1 F1 f1 q1 r1 => ?_
  obtain ⟨i, rfl, q1⟩ := q1
  have hv := r1.bare.2.2
  unfold Has at hv
  exact ⟨i, hv, k _ ρ1 0 i H1 F1 q1 rfl (fun _ => rfl) r1.bare.1 r1.bare.2.1⟩
theorem rg_2 {a b : Expr} {p pos : Pos} {w w2 : WE} (m : MonoE w) (m2 : MonoE w2) (hg : Gl X "range") (hm : X.mg "range" = none) (ha : PE X a (tE G T Wx w)) (hb : PE X b (tE G T Wx w2)) (na : starEach [a, b] X.env = (false, eval a X.env) :: starEach [b] X.env)
    (nb : starEach [b] X.env = (false, eval b X.env) :: starEach [] X.env) (hp : ∀ pos, (backTo pos (starEach [b] X.env)).any (·.1) = false) : RgE G T Wx X (.Call (.Name "range" p) [a, b] [] pos) (seqA [intG w, intG w2]) := by
  refine ⟨seqA_mono fun g hg => by
    rcases List.mem_cons.mp hg with rfl | hg
    · exact intG_mono m
    · rw [List.mem_singleton.mp hg]; exact intG_mono m2, _, prg_2 hg hm ha hb na nb (hp _), fun Ha E Fa σ H ρ F xq Q Q0 S xp h k => ?_⟩
  refine tE.mk m S xp h fun r ρ1 v1 H1 F1 f1 q1 r1 => ?_
  obtain ⟨i, rfl, q1⟩ := q1
  have hv := r1.bare.2.2
  unfold Has at hv
  refine tE.mk m2 r1.bare.1 (xp.step r1.bare.2.1) q1 fun r ρ2 v2 H2 F2 f2 q2 r2 => ?_
  obtain ⟨j, rfl, q2⟩ := q2
  have hv2 := r2.bare.2.2
  unfold Has at hv2
  exact ⟨i, j, hv, hv2, k _ ρ2 i j H2 F2 q2 rfl (fun h => (by cases h)) r2.bare.1 (r1.bare.2.1.trans r2.bare.2.1)⟩
theorem rgV_has {K : PySem.W.Frag} {i j : Int} : HasL K W H (rngD i (j - i).toNat) (rgV i j) := by
  unfold rngD rgV
  generalize (j - i).toNat = n
  have : ∀ l : List Nat, HasL K W H (l.map fun (k : Nat) => PyData.int (i + k)) (l.map fun k => V.int (i + (k : Nat))) := fun l => by
    induction l with
    | nil => exact .nil
    | cons k l ih => exact .cons (by unfold Has; rfl) ih
  exact this _
theorem rngD_len {lo : Int} {n : Nat} : (rngD lo n).length = n := by
  unfold rngD
  rw [List.length_map, List.length_range]
theorem rgArg_of {i j : Int} {avs : List AV} {x y : Int} (e : some (if avs.length = 1 then [PyData.int j] else [.int i, .int j]) = some ds) (hi : avs.length = 1 → i = 0) (h : rgArg ds = some (x, y)) : i = x ∧ j = y := by
  cases e
  by_cases q : avs.length = 1
  · rw [if_pos q] at h
    cases h
    exact ⟨hi q, rfl⟩
  · rw [if_neg q] at h
    cases h
    exact ⟨rfl, rfl⟩
theorem pe_tupRgE {e : Expr} {p pos : Pos} {wa : WA} (hc : X.calm = true) (hg : Gl X "tuple") (hm : X.mg "tuple" = none) (he : RgE G T Wx X e wa) (na : starEach [e] X.env = (false, eval e X.env) :: starEach [] X.env) : PE X (.Call (.Name "tuple" p) [e] [] pos) (tE G T Wx (primW pTupRg wa)) := by
  obtain ⟨ma, t, hp, go⟩ := he
  refine ⟨fun pins s σ H Q I h => ?_⟩
  obtain ⟨Ha, E, Fa, ρ, F, xq, S, xp, h⟩ := h
  refine (pe_tupRg hc hg hm hp na).run pins s σ H Q I ?_
  refine go Ha E Fa σ H ρ F xq _ _ S xp h fun avs ρ1 i j H1 F1 q e hi S1 f1 => ?_
  obtain ⟨ds, e2, x, y, e3, ok, q⟩ := q
  obtain ⟨rfl, rfl⟩ := rgArg_of (e.symm.trans e2) hi e3
  refine ⟨ok, fun p hp => ?_⟩
  have RA : RsA G Ha E Fa σ H F [] ρ1 [] H1 F1 [] := ⟨S1.orNil, f1, .nil, fun a h => (by cases h), fun a h => (by cases h)⟩
  refine q (.ref p) _ F1 [] (New.rs RA (.tup (fun a => RA.st.vo) hp ?_ rgV_has))
  rw [rngD_len]
  exact Nat.le_trans ok.2.2.2.2 (by decide)
theorem pe_lstRgE {e : Expr} {p pos : Pos} {wa : WA} (hc : X.calm = true) (hg : Gl X "list") (hm : X.mg "list" = none) (he : RgE G T Wx X e wa) (na : starEach [e] X.env = (false, eval e X.env) :: starEach [] X.env) : PE X (.Call (.Name "list" p) [e] [] pos) (tE G T Wx (primW pLstRg wa)) := by
  obtain ⟨ma, t, hp, go⟩ := he
  refine ⟨fun pins s σ H Q I h => ?_⟩
  obtain ⟨Ha, E, Fa, ρ, F, xq, S, xp, h⟩ := h
  refine (pe_listRg hc hg hm hp na).run pins s σ H Q I ?_
  refine go Ha E Fa σ H ρ F xq _ _ S xp h fun avs ρ1 i j H1 F1 q e hi S1 f1 => ?_
  obtain ⟨ds, e2, x, y, e3, ok, q⟩ := q
  obtain ⟨rfl, rfl⟩ := rgArg_of (e.symm.trans e2) hi e3
  refine ⟨ok, fun p hp => ?_⟩
  have RA : RsA G Ha E Fa σ H F [] ρ1 [] H1 F1 [] := ⟨S1.orNil, f1, .nil, fun a h => (by cases h), fun a h => (by cases h)⟩
  refine q (.ref p) _ F1 [p] (New.rs RA (.lst (fun a => RA.st.vo) hp ?_ rgV_has))
  rw [rngD_len]
  exact Nat.le_trans ok.2.2.2.2 (by decide)
end
end Pd

/-! Pd15: several names at once, places of one's own lists, their methods, calls with keywords. -/
namespace Pd
open PySem L2 PyProof.Rows

/-! ### a, b = x, y -/
def parS2 (i j : Nat) (w1 w2 : WE) : WS := fun ρ P => w1 ρ P.xq fun r1 ρ1 => w2 ρ1 P.xq fun r2 ρ2 => ltB i ρ2.length ∧ ltB j ρ2.length ∧ P.nx ((ρ2.set j r2.sl).set i r1.sl)
def parS3 (i j l : Nat) (w1 w2 w3 : WE) : WS := fun ρ P => w1 ρ P.xq fun r1 ρ1 => w2 ρ1 P.xq fun r2 ρ2 => w3 ρ2 P.xq fun r3 ρ3 => ltB i ρ3.length ∧ ltB j ρ3.length ∧ ltB l ρ3.length ∧ P.nx (((ρ3.set l r3.sl).set j r2.sl).set i r1.sl)
theorem parS2_mono {i j : Nat} {w1 w2 : WE} (m1 : MonoE w1) (m2 : MonoE w2) : MonoW (parS2 i j w1 w2) := fun ρ P P' h q => by
  unfold parS2
  rw [h.xq]
  exact m1 _ _ _ _ (fun r1 ρ1 q => m2 _ _ _ _ (fun r2 ρ2 q => ⟨q.1, q.2.1, h.nx _ q.2.2⟩) q) q
theorem parS3_mono {i j l : Nat} {w1 w2 w3 : WE} (m1 : MonoE w1) (m2 : MonoE w2) (m3 : MonoE w3) : MonoW (parS3 i j l w1 w2 w3) := fun ρ P P' h q => by
  unfold parS3
  rw [h.xq]
  exact m1 _ _ _ _ (fun r1 ρ1 q => m2 _ _ _ _ (fun r2 ρ2 q => m3 _ _ _ _ (fun r3 ρ3 q => ⟨q.1, q.2.1, q.2.2.1, h.nx _ q.2.2.2⟩) q) q) q
section
variable {G : Wd} {T : Xd} {Wx : WX} {X : Cx} {Ha : Hp} {E : Av} {Fa : Fo} {σ : L2.St} {H H1 : Hp} {ρ : List Sl} {F F1 : Fo} {xq : XQ} {W : Av}
/-- a value held is stored when others have come -/
theorem St.asg2 {i : Nat} {v : V} {r : R} {f : List Addr} {E' : Av} (S : St G Ha (orF E f) Fa σ H ρ F) (hi : i < ρ.length) (o : Ow G (Vo E' F1) H f v r) (hV : ∀ a, Vo (orF E f) F a → Vo E' F1 a) (na : ∀ a ∈ f, Ha a = none) (nE : ∀ a ∈ f, ¬ E a) : St G Ha E Fa (σ.set i (some v)) H (ρ.set i r.sl) (updF F i f) :=
  S.asg hi (o.mv ⟨fun _ _ h _ => h, fun a h => .inl (hV a h)⟩ fun _ _ => rfl) na nE
theorem upd_vo {j : Nat} {f : List Addr} {a : Addr} (h : Vo E (updF F j f) a) : Vo (orF E f) F a := by
  rcases h with h | h
  · exact .inl (.inl h)
  · rcases inF_upd h with h | ⟨k, _, h⟩
    · exact .inl (.inr h)
    · exact .inr ⟨k, h⟩
theorem Rs.ow' {r : R} {ρ1 : List Sl} {v : V} {f : List Addr} (h : Rs G Ha E Fa σ H F (.rv r) ρ1 v H1 F1 f) : Ow G (Vo (orF E f) F1) H1 f v r := h.ow
theorem ps_parS2 {i j : Nat} {x y : Str} {a b : Expr} {px py pt pos : Pos} {kt k2 : Nat} {pt2 : Pos} {w1 w2 : WE} (m1 : MonoE w1) (m2 : MonoE w2) (hc : X.calm = true) (hN : X.N.Nodup) (hi : X.N[i]? = some x) (hj : X.N[j]? = some y) (hij : i ≠ j)
    (hx : X.env.scope.names.lookup x = some .local) (hy : X.env.scope.names.lookup y = some .local) (h1 : PE X a (tE G T Wx w1)) (h2 : PE X b (tE G T Wx w2)) (s1 : starEach [a, b] X.env = (false, eval a X.env) :: starEach [b] X.env) (s2 : starEach [b] X.env = (false, eval b X.env) :: starEach [] X.env)
    (hw : swappedStores [.Tuple [.Name x px, .Name y py] kt pt] (.Tuple [a, b] k2 pt2) X.env = pure (some [x, y]))
    (hs : swapsWithSole [.Tuple [.Name x px, .Name y py] kt pt] (.Tuple [a, b] k2 pt2) pos.line X.env = pure false) :
    PS X (.Assign [.Tuple [.Name x px, .Name y py] kt pt] (.Tuple [a, b] k2 pt2) pos) (tS G T Wx (parS2 i j w1 w2)) := by
  refine ⟨fun pins s σ H D I h => ?_⟩
  obtain ⟨Ha, E, Fa, ρ, F, P, S, e, h⟩ := h
  refine (ps_par hc hN hi hj hij hx hy (pa_cons h1 (pa_cons h2 pa_nil s2) s1) hw hs).run pins s σ H D I ?_
  refine tE.mk m1 S e.xp h fun r1 ρ1 v1 H1 F1 f1 q r => ?_
  refine tE.mk m2 r.st ((e.xp.step r.fr).more fun a h => .inl h) q fun r2 ρ2 v2 H2 F2 f2 q q2 => ?_
  refine ⟨v1, v2, rfl, ?_⟩
  obtain ⟨l1, l2, q⟩ := q
  have l1 := ltB.lt l1
  have l2 := ltB.lt l2
  have n1 := r.nE S
  have o1 : Ow G (Vo (orF (orF E f1) f2) F2) H2 f1 v1 r1 := AvOk.on (av := .rv r1) (fun a h => Or.inr h) r.ow r.st q2
  have A := q2.st.asg l2 q2.ow' q2.na (q2.nE r.st)
  have B := A.asg2 (i := i) (v := v1) (r := r1) (by rw [List.length_set]; exact l1) o1 (fun a h => upd_vo h) r.na n1
  rw [List.set_comm _ _ (Ne.symm hij)] at B
  refine e.nx _ _ _ _ B ?_ q
  have fr := r.fr.trans q2.fr
  refine ⟨fr.keep, fr.dom, fun a h => ?_⟩
  rcases inF_upd h with h | ⟨k, _, h⟩
  · exact r.nw a h
  · by_cases e : k = j
    · rw [e, updF_same] at h
      rcases q2.nw a h with h | h
      · exact r.fr.new a h
      · exact .inr (r.fr.none h)
    · rw [updF_ne e] at h
      exact fr.new a ⟨k, h⟩
theorem ps_parS3 {i j l : Nat} {x y z : Str} {a b c : Expr} {px py pz pt pos : Pos} {kt k2 : Nat} {pt2 : Pos} {w1 w2 w3 : WE} (m1 : MonoE w1) (m2 : MonoE w2) (m3 : MonoE w3) (hc : X.calm = true) (hN : X.N.Nodup) (hi : X.N[i]? = some x) (hj : X.N[j]? = some y) (hl : X.N[l]? = some z) (hij : i ≠ j) (hil : i ≠ l) (hjl : j ≠ l)
    (hx : X.env.scope.names.lookup x = some .local) (hy : X.env.scope.names.lookup y = some .local) (hz : X.env.scope.names.lookup z = some .local) (h1 : PE X a (tE G T Wx w1)) (h2 : PE X b (tE G T Wx w2)) (h3 : PE X c (tE G T Wx w3))
    (s1 : starEach [a, b, c] X.env = (false, eval a X.env) :: starEach [b, c] X.env) (s2 : starEach [b, c] X.env = (false, eval b X.env) :: starEach [c] X.env) (s3 : starEach [c] X.env = (false, eval c X.env) :: starEach [] X.env)
    (hw : swappedStores [.Tuple [.Name x px, .Name y py, .Name z pz] kt pt] (.Tuple [a, b, c] k2 pt2) X.env = pure (some [x, y, z]))
    (hs : swapsWithSole [.Tuple [.Name x px, .Name y py, .Name z pz] kt pt] (.Tuple [a, b, c] k2 pt2) pos.line X.env = pure false) :
    PS X (.Assign [.Tuple [.Name x px, .Name y py, .Name z pz] kt pt] (.Tuple [a, b, c] k2 pt2) pos) (tS G T Wx (parS3 i j l w1 w2 w3)) := by
  refine ⟨fun pins s σ H D I h => ?_⟩
  obtain ⟨Ha, E, Fa, ρ, F, P, S, e, h⟩ := h
  refine (ps_par3 hc hN hi hj hl hij hil hjl hx hy hz (pa_cons h1 (pa_cons h2 (pa_cons h3 pa_nil s3) s2) s1) hw hs).run pins s σ H D I ?_
  refine tE.mk m1 S e.xp h fun r1 ρ1 v1 H1 F1 f1 q r => ?_
  have xp1 := (e.xp.step r.fr).more (E' := orF E f1) fun a h => .inl h
  refine tE.mk m2 r.st xp1 q fun r2 ρ2 v2 H2 F2 f2 q q2 => ?_
  refine tE.mk m3 q2.st ((xp1.step q2.fr).more fun a h => .inl h) q fun r3 ρ3 v3 H3 F3 f3 q q3 => ?_
  refine ⟨v1, v2, v3, rfl, ?_⟩
  obtain ⟨l1, l2, l3, q⟩ := q
  have l1 := ltB.lt l1
  have l2 := ltB.lt l2
  have l3 := ltB.lt l3
  have o1 : Ow G (Vo (orF (orF E f1) f2) F2) H2 f1 v1 r1 := AvOk.on (av := .rv r1) (fun a h => Or.inr h) r.ow r.st q2
  have o1' : Ow G (Vo (orF (orF (orF E f1) f2) f3) F3) H3 f1 v1 r1 := AvOk.on (av := .rv r1) (fun a h => Or.inl (Or.inr h)) (show AvOk G _ H2 σ f1 v1 (.rv r1) from o1) q2.st q3
  have o2 : Ow G (Vo (orF (orF (orF E f1) f2) f3) F3) H3 f2 v2 r2 := AvOk.on (av := .rv r2) (fun a h => Or.inr h) q2.ow q2.st q3
  have A := q3.st.asg l3 q3.ow' q3.na (q3.nE q2.st)
  have B := A.asg2 (i := j) (v := v2) (r := r2) (by rw [List.length_set]; exact l2) o2 (fun a h => upd_vo h) q2.na (q2.nE r.st)
  have C := B.asg2 (i := i) (v := v1) (r := r1) (by rw [List.length_set, List.length_set]; exact l1) o1' (fun a h => upd_vo ((upd_vo h).imp id fun h => h) |>.imp id id) r.na (r.nE S)
  have e1 : ((σ.set l (some v3)).set j (some v2) : L2.St) = (σ.set j (some v2)).set l (some v3) := List.set_comm _ _ (Ne.symm hjl)
  have e2 : (((σ.set j (some v2)).set l (some v3)).set i (some v1) : L2.St) = ((σ.set j (some v2)).set i (some v1)).set l (some v3) := List.set_comm _ _ (Ne.symm hil)
  have e3 : ((σ.set j (some v2)).set i (some v1) : L2.St) = (σ.set i (some v1)).set j (some v2) := List.set_comm _ _ (Ne.symm hij)
  rw [e1, e2, e3] at C
  refine e.nx _ _ _ _ C ?_ q
  have fr := (r.fr.trans q2.fr).trans q3.fr
  refine ⟨fr.keep, fr.dom, fun a h => ?_⟩
  rcases inF_upd h with h | ⟨k, _, h⟩
  · exact r.nw a h
  · by_cases e : k = j
    · rw [e, updF_same] at h
      rcases q2.nw a h with h | h
      · exact r.fr.new a h
      · exact .inr (r.fr.none h)
    · rw [updF_ne e] at h
      by_cases e : k = l
      · rw [e, updF_same] at h
        rcases q3.nw a h with h | h
        · exact (r.fr.trans q2.fr).new a h
        · exact .inr ((r.fr.trans q2.fr).none h)
      · rw [updF_ne e] at h
        exact fr.new a ⟨k, h⟩
end
/-! ### a, b = e -/
def unpS (is : List Nat) (w : WE) : WS := fun ρ P => w ρ P.xq fun r ρ' => ∃ d, r.d = some d ∧ tupT is d ρ' P.nx
theorem unpS_mono {is : List Nat} {w : WE} (m : MonoE w) : MonoW (unpS is w) := fun ρ P P' h q => by
  unfold unpS
  rw [h.xq]
  exact m _ _ _ _ (fun r ρ' ⟨d, e, q⟩ => ⟨d, e, tupT_mono _ _ _ _ (fun ρ2 => h.nx ρ2) q⟩) q
section
variable {G : Wd} {T : Xd} {Wx : WX} {X : Cx}
theorem ps_unpS {is : List Nat} {tg e : Expr} {pos : Pos} {w : WE} (m : MonoE w) (hg : PG X tg (tTg G is (tupT is))) (he : PE X e (tE G T Wx w)) (hs : swapsWithSole [tg] e pos.line X.env = pure false) (hw : swappedStores [tg] e X.env = pure none) (h1 : (assignEach [tg] X.env).map (·.2) = [assign tg X.env]) :
    PS X (.Assign [tg] e pos) (tS G T Wx (unpS is w)) := by
  refine ⟨fun pins s σ H D I h => ?_⟩
  obtain ⟨Ha, E, Fa, ρ, F, P, S, e, h⟩ := h
  refine (ps_asg he hg hs hw h1).run pins s σ H D I ?_
  refine tE.mk m S e.xp h fun r ρ1 v H1 F1 f q rs => ?_
  obtain ⟨d, ed, q⟩ := q
  refine ⟨Ha, E, Fa, ρ1, F1, d, rs.st.less fun a h => .inl h, rs.has S ed, tupT_mono _ _ _ _ (fun ρ2 q σ' F' S' sub _ => ?_) q⟩
  exact e.nx _ _ _ _ S' ⟨rs.fr.keep, rs.fr.dom, fun a h => rs.fr.new a (sub a h)⟩ q
end

/-! ### name[i] = e -/
def setS (i : Nat) (wv wi : WE) : WS := fun ρ P => wv ρ P.xq fun r ρ1 => ∃ d, r.d = some d ∧ (∃ b l, ρ1[i]? = some (.ol b l)) ∧ wi ρ1 P.xq fun r2 ρ2 => ∃ k b l j, r2 = .sh (.int k) ∧ ρ2[i]? = some (.ol b l) ∧ ixN l.length k = some j ∧ P.nx (ρ2.set i (.ol b (l.set j d)))
theorem setS_mono {i : Nat} {wv wi : WE} (m : MonoE wv) (m2 : MonoE wi) : MonoW (setS i wv wi) := fun ρ P P' h q => by
  unfold setS
  rw [h.xq]
  exact m _ _ _ _ (fun r ρ1 ⟨d, e, z, q⟩ => ⟨d, e, z, m2 _ _ _ _ (fun r2 ρ2 ⟨k, b, l, j, e1, e2, e3, q⟩ => ⟨k, b, l, j, e1, e2, e3, h.nx _ q⟩) q⟩) q
section
variable {G : Wd} {T : Xd} {Wx : WX} {X : Cx} {Ha : Hp} {E : Av} {Fa : Fo} {σ : L2.St} {H H1 : Hp} {ρ : List Sl} {F F1 : Fo} {xq : XQ} {W : Av}
/-- one's own list is written anew -/
theorem St.rew {i : Nat} {b : Bool} {l l' : List PyData} {a : Addr} {xs' : List V} (S : St G Ha E Fa σ H ρ F) (e : ρ[i]? = some (.ol b l)) (ea : F i = [a]) (hv : σ[i]? = some (some (.ref a))) (z : l'.length ≤ sizeLine) (h : HasL G.K (Vo E F) H l' xs') :
    St G Ha E Fa σ (upd H a (.lst xs')) (ρ.set i (.ol b l')) F ∧ Fr H F (upd H a (.lst xs')) F := by
  have ina : InF F a := ⟨i, by rw [ea]; exact List.mem_singleton.mpr rfl⟩
  refine ⟨S.chg (s' := .ol b l') e ea rfl ⟨.ref a, by rw [hv]; rfl, z, a, xs', rfl, rfl, upd_same, HasL.mv ⟨fun c o h n => ?_, fun c h => .inl h⟩ _ _ h⟩, fun c o h n => ?_, fun c h => ?_, fun c h => .inl h⟩
  · rw [upd_ne fun q => n (by rw [q]; exact .inr ina)]
    exact h
  · rw [upd_ne fun q => n (by rw [q]; exact ina)]
    exact h
  · by_cases q : c = a
    · rw [q, upd_same]; simp
    · rw [upd_ne q]; exact h
theorem St.own {i : Nat} {b : Bool} {l : List PyData} (S : St G Ha E Fa σ H ρ F) (e : ρ[i]? = some (.ol b l)) : ∃ a xs, σ[i]? = some (some (.ref a)) ∧ F i = [a] ∧ H a = some (.lst xs) ∧ HasL G.K (Vo E F) H l xs ∧ l.length ≤ sizeLine := by
  obtain ⟨v, h1, z, a, xs, h2, h3, h4, h5⟩ := S.slot e rfl
  subst h2
  exact ⟨a, xs, h1, h3, h4, h5, z⟩
theorem ps_setS {i : Nat} {o ix e : Expr} {pos pos2 : Pos} {wv wi : WE} (m : MonoE wv) (m2 : MonoE wi) (ho : PE X o (tVar i)) (hi : PE X ix (tE G T Wx wi)) (he : PE X e (tE G T Wx wv))
    (ha : ∀ v, assign (.Subscript o ix pos) X.env v = (do
      let ov ← holding [v] (eval o X.env)
      let iv ← holding [v, ov] (eval ix X.env)
      standAt pos
      holding [v, ov, iv] (setItem ov iv v)
      release [v, ov, iv] [])) (hs : swapsWithSole [.Subscript o ix pos] e pos2.line X.env = pure false) (hw : swappedStores [.Subscript o ix pos] e X.env = pure none) (h1 : (assignEach [.Subscript o ix pos] X.env).map (·.2) = [assign (.Subscript o ix pos) X.env]) :
    PS X (.Assign [.Subscript o ix pos] e pos2) (tS G T Wx (setS i wv wi)) := by
  refine ⟨fun pins s σ H D I h => ?_⟩
  obtain ⟨Ha, E, Fa, ρ, F, P, S, en, h⟩ := h
  refine (ps_asg he (pg_sub ho hi set_list ha) hs hw h1).run pins s σ H D I ?_
  refine tE.mk m S en.xp h fun r ρ1 v H1 F1 f q rs => ?_
  obtain ⟨d, ed, ⟨b0, l0, e0⟩, q⟩ := q
  have S1 := rs.st.less (E' := E) fun a h => .inl h
  have hd := rs.has S ed
  obtain ⟨a, xs0, hv, ea0, _, _, _⟩ := S1.own e0
  refine ⟨.ref a, hv, ?_⟩
  refine tE.mk m2 S1 (en.xp.step rs.fr) q fun r2 ρ2 v2 H2 F2 f2 q r2s => ?_
  obtain ⟨k, b, l, j, rfl, e2, ej, q⟩ := q
  obtain ⟨S2, fr2, hk⟩ := r2s.bare
  unfold Has at hk
  obtain ⟨a', xs, hv', ea, hx, hl, z⟩ := S2.own e2
  rw [hv] at hv'
  cases hv'
  refine ⟨a, xs, k, j, rfl, hk, hx, by rw [hl.length]; exact ej, ?_⟩
  have hd2 : Has G.K (Vo E F2) H2 d v := Has.mv (fr2.mv E) _ _ hd
  obtain ⟨S3, fr3⟩ := S2.rew e2 ea hv (by rw [List.length_set]; exact z) (hl.set hd2 j)
  exact en.nx _ _ _ _ S3 ((rs.fr.trans fr2).trans fr3) q
/-! ### methods -/
abbrev MtD := List PyData → List PyData → (PyData → List PyData → Prop) → Prop
def MonoM (p : MtD) : Prop := ∀ l ds Q Q', (∀ d l', Q d l' → Q' d l') → p l ds Q → p l ds Q'
def mApp : MtD := fun l ds Q => ∃ d, ds = [d] ∧ l.length < sizeLine ∧ Q .none (l ++ [d])
def mPop : MtD := fun l ds Q => ds = [] ∧ ∃ l' d, l = l' ++ [d] ∧ Q d l'
def mPopAt : MtD := fun l ds Q => ∃ k j d, ds = [.int k] ∧ (-(2 ^ 63) ≤ k ∧ k < 2 ^ 63) ∧ seqIndex? k l.length = some j ∧ l[j]? = some d ∧ Q d (l.eraseIdx j)
def mIns : MtD := fun l ds Q => ∃ k d, ds = [.int k, d] ∧ l.length < sizeLine ∧ 0 ≤ k ∧ k < 2 ^ 63 ∧ Q .none (l.take k.toNat ++ [d] ++ l.drop k.toNat)
def mExt : MtD := fun l ds Q => ∃ l2, ds = [.list l2] ∧ l.length + l2.length ≤ sizeLine ∧ Q .none (l ++ l2)
theorem mApp_mono : MonoM mApp := fun l ds Q Q' h ⟨d, e, z, q⟩ => ⟨d, e, z, h _ _ q⟩
theorem mPop_mono : MonoM mPop := fun l ds Q Q' h ⟨e, l', d, e2, q⟩ => ⟨e, l', d, e2, h _ _ q⟩
theorem mPopAt_mono : MonoM mPopAt := fun l ds Q Q' h ⟨k, j, d, e, b, e2, e3, q⟩ => ⟨k, j, d, e, b, e2, e3, h _ _ q⟩
theorem mIns_mono : MonoM mIns := fun l ds Q Q' h ⟨k, d, e, z, a, b, q⟩ => ⟨k, d, e, z, a, b, h _ _ q⟩
theorem mExt_mono : MonoM mExt := fun l ds Q Q' h ⟨l2, e, z, q⟩ => ⟨l2, e, z, h _ _ q⟩
/-- the method's rule answers the data's question -/
def MtOk (K : PySem.W.Frag) (r : V → List V → Hp → VK → Prop) (p : MtD) : Prop := ∀ (W : Av) (H : Hp) (a : Addr) (xs : List V) (l ds : List PyData) (vs : List V) (Q : VK) (Q0 : PyData → List PyData → Prop), H a = some (.lst xs) → l.length ≤ sizeLine → HasL K W H l xs → HasL K W H ds vs → p l ds Q0 →
  (∀ d l' x xs', Q0 d l' → HasL K W H l' xs' → Has K W H d x → l'.length ≤ sizeLine → Q x (upd H a (.lst xs'))) → r (.ref a) vs H Q
theorem mt_app {K : PySem.W.Frag} : MtOk K rAppend mApp := by
  intro W H a xs l ds vs Q Q0 ha z hl hv h k
  obtain ⟨d, rfl, zl, q⟩ := h
  unfold HasL at hv
  obtain ⟨x, r, rfl, hx, hr⟩ := hv
  unfold HasL at hr
  subst hr
  exact ⟨a, xs, x, rfl, rfl, ha, by rw [hl.length]; exact zl, k _ _ _ _ q (hl.append (.one hx)) (by unfold Has; rfl) (by rw [List.length_append, List.length_singleton]; omega)⟩
theorem mt_ins {K : PySem.W.Frag} : MtOk K (fun x vs H Q => ∃ (l : Addr) (xs : List V) (i : Int) (y : V), x = .ref l ∧ vs = [.int i, y] ∧ H l = some (.lst xs) ∧ xs.length < sizeLine ∧ 0 ≤ i ∧ i < 2 ^ 63 ∧
    Q .non (upd H l (.lst (xs.take i.toNat ++ [y] ++ xs.drop i.toNat)))) mIns := by
  intro W H a xs l ds vs Q Q0 ha z hl hv h k
  obtain ⟨i, d, rfl, zl, h0, h1, q⟩ := h
  unfold HasL at hv
  obtain ⟨x, r, rfl, hx, hr⟩ := hv
  unfold HasL at hr
  obtain ⟨y, r, rfl, hy, hr⟩ := hr
  unfold HasL at hr
  subst hr
  unfold Has at hx
  subst hx
  refine ⟨a, xs, i, y, rfl, rfl, ha, by rw [hl.length]; exact zl, h0, h1, k _ _ _ _ q (((hl.take _).append (.one hy)).append (hl.drop _)) (by unfold Has; rfl) ?_⟩
  rw [List.length_append, List.length_append, List.length_singleton, List.length_take, List.length_drop]
  omega
theorem mt_popL {K : PySem.W.Frag} : MtOk K rPop mPop := by
  intro W H a xs l ds vs Q Q0 ha z hl hv h k
  obtain ⟨rfl, l', d, rfl, q⟩ := h
  unfold HasL at hv
  subst hv
  obtain ⟨x, ex, hx⟩ := hl.get (i := l'.length) (d := d) (by simp)
  have hlen := hl.length
  rw [List.length_append, List.length_singleton] at hlen
  have hd := hl.take l'.length
  rw [List.take_left'  rfl] at hd
  refine ⟨a, xs, x, rfl, rfl, ha, by rw [hlen, Nat.add_sub_cancel]; exact ex, ?_⟩
  rw [List.dropLast_eq_take, hlen, Nat.add_sub_cancel]
  exact k _ _ _ _ q hd hx (by rw [List.length_append] at z; omega)
theorem mt_popA {K : PySem.W.Frag} : MtOk K rPopAt mPopAt := by
  intro W H a xs l ds vs Q Q0 ha z hl hv h k
  obtain ⟨i, j, d, rfl, b, e, ed, q⟩ := h
  unfold HasL at hv
  obtain ⟨x, r, rfl, hx, hr⟩ := hv
  unfold HasL at hr
  subst hr
  unfold Has at hx
  subst hx
  obtain ⟨y, ey, hy⟩ := hl.get ed
  refine ⟨a, xs, i, j, y, rfl, rfl, ha, b.1, b.2, by rw [hl.length]; exact e, ey, k _ _ _ _ q (hl.eraseIdx j) hy ?_⟩
  have := len_erase l j
  omega
theorem mt_ext {K : PySem.W.Frag} : MtOk K rExtend mExt := by
  intro W H a xs l ds vs Q Q0 ha z hl hv h k
  obtain ⟨l2, rfl, zl, q⟩ := h
  unfold HasL at hv
  obtain ⟨x, r, rfl, hx, hr⟩ := hv
  unfold HasL at hr
  subst hr
  unfold Has at hx
  obtain ⟨z2, c, ys, rfl, h1, h2⟩ := hx
  refine ⟨a, c, xs, ys, rfl, rfl, ha, h1.1, by rw [hl.length, h2.length]; exact zl, k _ _ _ _ q (hl.append h2) (by unfold Has; rfl) (by rw [List.length_append]; exact zl)⟩
/-- name.method(e, ..) of one's own list -/
def mthE (i : Nat) (wa : WA) (p : MtD) : WE := fun ρ xq Q => (∃ b l, ρ[i]? = some (.ol b l)) ∧ wa ρ xq fun avs ρ1 => ∃ b l ds, ρ1[i]? = some (.ol b l) ∧ allR avs = some ds ∧ p l ds fun d l' => Q (.sh d) (ρ1.set i (.ol b l'))
theorem mthE_mono {i : Nat} {wa : WA} {p : MtD} (m : MonoA wa) (mp : MonoM p) : MonoE (mthE i wa p) := fun ρ xq Q Q' h ⟨z, q⟩ => ⟨z, m _ _ _ _ (fun avs ρ1 ⟨b, l, ds, e1, e2, q⟩ => ⟨b, l, ds, e1, e2, mp _ _ _ _ (fun d l' => h _ _) q⟩) q⟩
theorem mth_go {i : Nat} {p : MtD} {r : V → List V → Hp → VK → Prop} {Q : VK} {Q0 : R → List Sl → Prop} {avs : List AV} {ρ1 : List Sl} {vs : List V} {f : List Addr} {b : Bool} {l ds : List PyData} {a : Addr} (ok : MtOk G.K r p) (mp : MonoM p) (S : St G Ha E Fa σ H ρ F)
    (rs : RsA G Ha E Fa σ H F avs ρ1 vs H1 F1 f) (hv : σ[i]? = some (some (.ref a))) (e1 : ρ1[i]? = some (.ol b l)) (e2 : allR avs = some ds) (h : p l ds fun d l' => Q0 (.sh d) (ρ1.set i (.ol b l')))
    (k : ∀ r ρ' v H' F' f, Q0 r ρ' → Rs G Ha E Fa σ H F (.rv r) ρ' v H' F' f → Q v H') : r (.ref a) vs H1 Q := by
  have S1 := rs.st.less (E' := E) fun a h => .inl h
  have hl := rvs_has (W' := Vo E F1) rs.ow e2 (rs.off S) fun a h => h.imp .inl id
  obtain ⟨a', xs, hv', ea, hx, hxs, z⟩ := S1.own e1
  rw [hv] at hv'
  cases hv'
  refine ok (Vo E F1) H1 a xs l ds vs Q _ hx z hxs hl h fun d l' x xs' q h1 h2 z' => ?_
  obtain ⟨S2, fr2⟩ := S1.rew e1 ea hv z' h1
  refine k _ _ x _ F1 [] q ⟨S2.orNil, rs.fr.trans fr2, ⟨rfl, Has.mv ⟨fun c o h n => ?_, fun c h => .inl (h.imp (fun h => h.elim id fun h => (by cases h)) id)⟩ _ _ h2⟩, fun a h => (by cases h), fun a h => (by cases h)⟩
  rw [upd_ne fun q => n (by rw [q]; exact .inr ⟨i, by rw [ea]; exact List.mem_singleton.mpr rfl⟩)]
  exact h
theorem pe_mth0 {i : Nat} {o : Expr} {name : Str} {apos cpos : Pos} {id : String} {p : MtD} {r : V → List V → Hp → VK → Prop} (mp : MonoM p) (ok : MtOk G.K r p) (hK : X.K = G.K) (pa : PlainAttrs "list") (slot : Slot "list" name id) (hty : typeOf (.builtin id) = pure (.type "method_descriptor")) (hm : MtR X id r) (ho : PE X o (tVar i))
    (hbase : attributeBase o name X.env (eval o X.env) = eval o X.env) (hline : (apos.endLine == cpos.line) = true) : PE X (.Call (.Attribute o name apos) [] [] cpos) (tE G T Wx (mthE i (seqA []) p)) := by
  refine ⟨fun pins s σ H Q I h => ?_⟩
  obtain ⟨Ha, E, Fa, ρ, F, xq, S, xp, ⟨b0, l0, e0⟩, h⟩ := h
  refine (pe_bm0 pa slot hty hm ho hbase hline).run pins s σ H Q I ?_
  obtain ⟨a, xs, hv, ea, hx, _, _⟩ := S.own e0
  refine ⟨.ref a, hv, .inl ⟨rfl, xs, .of hx⟩, ?_⟩
  obtain ⟨b, l, ds, e1, e2, q⟩ := h
  exact mth_go (Q0 := fun r ρ' => ∀ v H' F' f, Rs G Ha E Fa σ H F (.rv r) ρ' v H' F' f → Q v H') ok mp S (.nil S) hv e1 e2 q fun r ρ' v H' F' f q rs => q v H' F' f rs
theorem pe_mth {i : Nat} {o e : Expr} {es : List Expr} {name : Str} {apos cpos : Pos} {id : String} {p : MtD} {r : V → List V → Hp → VK → Prop} {wa : WA} (mp : MonoM p) (ma : MonoA wa) (ok : MtOk G.K r p) (hK : X.K = G.K) (pa : PlainAttrs "list") (slot : Slot "list" name id) (hty : typeOf (.builtin id) = pure (.type "method_descriptor")) (hm : MtR X id r) (ho : PE X o (tVar i)) (ha : PA X (e :: es) (tAs G T Wx wa))
    (hbase : attributeBase o name X.env (eval o X.env) = eval o X.env)
    (hfew : ((backTo cpos (starEach (e :: es) X.env)).all (fun x => !x.1) && (backToKw cpos (keywordEach [] X.env)).all (fun x => x.1.isSome)
      && decide ((e :: es).length + ([] : List Keyword).length + (if ([] : List Keyword).isEmpty then 0 else 1) < 30)) = true)
    (hline : (apos.endLine == cpos.line) = true) (hs : starEach (e :: es) X.env = (false, eval e X.env) :: starEach es X.env) (hplain : (backTo cpos (starEach es X.env)).any (·.1) = false) :
    PE X (.Call (.Attribute o name apos) (e :: es) [] cpos) (tE G T Wx (mthE i wa p)) := by
  refine ⟨fun pins s σ H Q I h => ?_⟩
  obtain ⟨Ha, E, Fa, ρ, F, xq, S, xp, ⟨b0, l0, e0⟩, h⟩ := h
  refine (pe_bm pa slot hty hm ho ha hbase hfew hline hs hplain).run pins s σ H Q I ?_
  obtain ⟨a, xs, hv, ea, hx, _, _⟩ := S.own e0
  refine ⟨.ref a, hv, .inl ⟨rfl, xs, .of hx⟩, ?_⟩
  refine tAs.mk ma S xp h fun avs ρ1 vs H1 F1 f q rs => ?_
  obtain ⟨b, l, ds, e1, e2, q⟩ := q
  exact mth_go (Q0 := fun r ρ' => ∀ v H' F' f, Rs G Ha E Fa σ H F (.rv r) ρ' v H' F' f → Q v H') ok mp S rs hv e1 e2 q fun r ρ' v H' F' f q rs => q v H' F' f rs

/-! ### calls with keywords alone -/
theorem AvsOk.perm {H : Hp} {f : List Addr} {vs : List V} {avs : List AV} {ks : List Str} (h : AvsOk G W H σ f vs avs) (hk : avs.length = ks.length) : ∀ (ps : List Str), (∀ p ∈ ps, ks.idxOf p < ks.length) → ∃ f', (∀ a ∈ f', a ∈ f) ∧ AvsOk G W H σ f' (permV .non ps ks vs) (permV (.vw 0) ps ks avs)
  | [], _ => ⟨[], fun a h => (by cases h), .nil⟩
  | p :: ps, hp => by
    obtain ⟨f', sub, q⟩ := AvsOk.perm h hk ps fun r hr => hp r (List.mem_cons_of_mem _ hr)
    have hi : ks.idxOf p < avs.length := by rw [hk]; exact hp p List.mem_cons_self
    obtain ⟨v, g, ev, o, sg⟩ := h.get (ks.idxOf p) avs[ks.idxOf p] (by simp [hi])
    refine ⟨g ++ f', fun a ha => ?_, ?_⟩
    · rcases List.mem_append.mp ha with ha | ha
      · exact sg a ha
      · exact sub a ha
    · have e1 : vs.getD (ks.idxOf p) .non = v := by rw [List.getD_eq_getElem?_getD, ev]; rfl
      have e2 : avs.getD (ks.idxOf p) (.vw 0) = avs[ks.idxOf p] := by rw [List.getD_eq_getElem?_getD, List.getElem?_eq_getElem hi]; rfl
      show AvsOk G W H σ (g ++ f') (vs.getD (ks.idxOf p) .non :: permV .non ps ks vs) (avs.getD (ks.idxOf p) (.vw 0) :: permV (.vw 0) ps ks avs)
      rw [e1, e2]
      exact .cons o q
theorem RsA.perm {f : List Addr} {vs : List V} {avs : List AV} {ks ps : List Str} {ρ1 : List Sl} (r : RsA G Ha E Fa σ H F avs ρ1 vs H1 F1 f) (hk : avs.length = ks.length) (hp : ∀ p ∈ ps, ks.idxOf p < ks.length) : ∃ f', RsA G Ha E Fa σ H F (permV (.vw 0) ps ks avs) ρ1 (permV .non ps ks vs) H1 F1 f' := by
  obtain ⟨f', sub, q⟩ := r.ow.perm hk ps hp
  have se : ∀ a, orF E f' a → orF E f a := fun a h => h.imp id (sub a)
  exact ⟨f', r.st.less se, r.fr, q.imp fun a h => h.imp (se a) id, fun a h => r.na a (sub a h), fun a h => r.nw a (sub a h)⟩
theorem Vals.permV {vs : List V} {us : List Value} {ks : List Str} (h : Vals vs us) : ∀ ps : List Str, (∀ p ∈ ps, ks.idxOf p < ks.length) → vs.length = ks.length → Vals (permV .non ps ks vs) (Pd.permV .none ps ks us)
  | [], _, _ => .nil
  | p :: ps, hp, hl => by
    have hi : ks.idxOf p < vs.length := by rw [hl]; exact hp p List.mem_cons_self
    obtain ⟨u, hu, r⟩ := h.get (i := ks.idxOf p) (x := vs[ks.idxOf p]) (by simp [hi])
    have e1 : vs.getD (ks.idxOf p) .non = vs[ks.idxOf p] := by rw [List.getD_eq_getElem?_getD, List.getElem?_eq_getElem hi]; rfl
    have e2 : us.getD (ks.idxOf p) .none = u := by rw [List.getD_eq_getElem?_getD, hu]; rfl
    show Vals (vs.getD (ks.idxOf p) .non :: Pd.permV .non ps ks vs) (us.getD (ks.idxOf p) .none :: Pd.permV .none ps ks us)
    rw [e1, e2]
    exact .cons r (Vals.permV h ps (fun r hr => hp r (List.mem_cons_of_mem _ hr)) hl)
theorem pk_seq_nil : PK X [] (tAs G T Wx (seqA [])) := by
  refine ⟨fun pos pins s σ H Q I h => ?_⟩
  obtain ⟨Ha, E, Fa, ρ, F, xq, S, xp, h⟩ := h
  exact (pk_nil (X := X)).run pos pins s σ H Q I (h _ _ _ _ (.nil S))
theorem pk_seq_cons {nm : Option Str} {e : Expr} {kpos : Pos} {kws : List Keyword} {g : WG} {gs : List WG} (mg : MonoG g) (ms : MonoA (seqA gs)) (h1 : PE X e (tG G T Wx g)) (h2 : PK X kws (tAs G T Wx (seqA gs))) : PK X (⟨nm, e, kpos⟩ :: kws) (tAs G T Wx (seqA (g :: gs))) := by
  refine ⟨fun pos pins s σ H Q I h => ?_⟩
  obtain ⟨Ha, E, Fa, ρ, F, xq, S, xp, h⟩ := h
  refine (pk_cons h1 h2).run pos pins s σ H Q I ?_
  refine tG.mk mg S xp h fun av ρ1 v H1 F1 f q r => ?_
  refine ⟨Ha, orF E f, Fa, ρ1, F1, xq, r.st, (xp.step r.fr).more fun a h => .inl h, ms _ _ _ _ (fun avs ρ2 q2 vs H2 F2 f2 r2 => ?_) q⟩
  exact q2 _ _ _ _ (.cons S r r2)
theorem pe_callKP {k n : Nat} {f : Addr} {fd : FuncData} {ps ks : List Str} {x : Str} {p pos : Pos} {kws : List Keyword} {φ : Spc} {wa : WA} (Fn : FnG X.prog X.w X.K X.mg X.base k f fd n ps (spOf G T φ)) (mφ : MonoS φ) (ma : MonoA wa) (hr : Room k X.A) (hgd : X.A.guards = some [])
    (tk : Takes X Wx) (hg : Gl X x) (hm : X.mg x = some (.ref f)) (hk : PySem.W.keepIn X.K (.ref f) = true) (hb : ∀ us : List Value, us.length = ks.length → bindArgs fd ⟨[], ks.zip us⟩ = pure (ps.zip (permV .none ps ks us))) (hn : ps.length = n) (hp : ∀ p ∈ ps, ks.idxOf p < ks.length)
    (hl : ∀ ρ xq Q, wa ρ xq Q → wa ρ xq fun avs ρ' => avs.length = ks.length ∧ Q avs ρ')
    (hkw : PK X kws (tAs G T Wx wa)) (hall : (backToKw pos (keywordEach kws X.env)).all (·.1.isSome) = true) (hks : (backToKw pos (keywordEach kws X.env)).filterMap (·.1) = ks) (hdb : (x == ("__debug__" : Str)) = false)
    (hpl : ((backTo pos (starEach [] X.env)).any (·.1) || (backToKw pos (keywordEach kws X.env)).any (·.1.isNone)) = false) :
    PE X (.Call (.Name x p) [] kws pos) (tE G T Wx (callW φ (permA ps ks wa))) := by
  refine ⟨fun pins s σ H Q I h => ?_⟩
  obtain ⟨Ha, E, Fa, ρ, F, xq, S, xp, h⟩ := h
  refine wpAny_Call_Name_kw (ld_glob I hg hm ?_ hdb)
  refine PySem.W.callWith_KW0 (h₀ := X.base) I.ok.mod.kin hk hall (thn (hkw.run pos pins s σ H (fun vs H' => vs.length = ks.length ∧ spOf G T φ (permV .non ps ks vs) H' Q fun cls d H' => Wx cls d σ H') I ?_) fun us s1 ⟨vs, H1, I1, r, ln, q⟩ => ⟨I1.kIn, ?_⟩) hpl
  · refine ⟨Ha, E, Fa, ρ, F, xq, S, xp, ma _ _ _ _ (fun avs ρ' q vs H' F' f r => ?_) (hl _ _ _ h)⟩
    obtain ⟨ln, as, e1, nd, q⟩ := q
    obtain ⟨f', r'⟩ := r.perm (ps := ps) ln hp
    exact ⟨by rw [r.ow.len]; exact ln, callW.go S xp mφ r' e1 (ndB.nd nd) q fun rr ρ' v H' F' g q rs => q v H' F' g rs⟩
  · rw [hks]
    have r2 := Vals.permV r ps hp ln
    exact run_g (args := ⟨[] ++ [], ks.zip us⟩) Fn hr hgd tk I1 (by unfold Pd.permV; rw [List.length_map]; exact hn) (.of_eq (hb us (by rw [← r.length]; exact ln))) r2 q rfl
theorem seqA_len {gs : List WG} (mg : ∀ g ∈ gs, MonoG g) : ∀ ρ xq Q, seqA gs ρ xq Q → seqA gs ρ xq fun avs ρ' => avs.length = gs.length ∧ Q avs ρ' := by
  induction gs with
  | nil => exact fun ρ xq Q h => ⟨rfl, h⟩
  | cons g gs ih =>
    intro ρ xq Q h
    refine mg g List.mem_cons_self _ _ _ _ (fun av ρ1 h => ?_) h
    refine seqA_mono (fun g' hg => mg g' (List.mem_cons_of_mem _ hg)) _ _ _ _ (fun avs ρ' q => ?_) (ih (fun g' hg => mg g' (List.mem_cons_of_mem _ hg)) _ _ _ h)
    exact ⟨by rw [List.length_cons, List.length_cons, q.1], q.2⟩
end

/-! ### loops by what holds at each turn -/
def ForI (tg : WTg) (w : WS) (ds : List PyData) (ρ : List Sl) (P : Po) : Prop := ∃ I : List PyData → List Sl → Prop, I ds ρ ∧ (∀ ρ, I [] ρ → P.nx ρ) ∧
  ∀ d ds ρ, I (d :: ds) ρ → tg d ρ fun ρ' => w ρ' { P with nx := I ds, ct := I ds, bk := P.nx }
def forI (wi : WI) (tg : WTg) (w : WS) : WS := fun ρ P => wi ρ P.xq fun ds us ρ' => us = [] ∧ ForI tg w ds ρ' P
theorem forI_mono {wi : WI} {tg : WTg} {w : WS} (mi : MonoI wi) (mt : MonoTg tg) (mw : MonoW w) : MonoW (forI wi tg w) := fun ρ P P' h q => by
  obtain ⟨nx, rt, bk, ct, xq⟩ := P
  obtain ⟨nx', rt', bk', ct', xq'⟩ := P'
  obtain rfl : xq' = xq := h.xq
  refine mi _ _ _ _ (fun ds us ρ' ⟨e, I, q1, q2, q3⟩ => ⟨e, I, q1, fun ρ z => h.nx _ (q2 ρ z), fun d ds ρ z => mt _ _ _ _ (fun ρ2 z => ?_) (q3 d ds ρ z)⟩) q
  exact mw ρ2 { nx := I ds, rt := rt, bk := nx, ct := I ds, xq := xq' } { nx := I ds, rt := rt', bk := nx', ct := I ds, xq := xq' } (Po.Le.mk (fun _ z => z) h.rt h.nx (fun _ z => z) rfl) z
theorem forI_go {tg : WTg} {w : WS} {P : Po} {I : List PyData → List Sl → Prop} (mt : MonoTg tg) (mw : MonoW w) (h1 : ∀ ρ, I [] ρ → P.nx ρ) (h2 : ∀ d ds ρ, I (d :: ds) ρ → tg d ρ fun ρ' => w ρ' { P with nx := I ds, ct := I ds, bk := P.nx }) :
    ∀ (ds : List PyData) (ρ : List Sl), I ds ρ → forL tg w ds ρ P
  | [], ρ, h => h1 ρ h
  | d :: ds, ρ, h => mt _ _ _ _ (fun ρ' z => mw ρ' { P with nx := I ds, ct := I ds, bk := P.nx } { P with nx := fun ρ2 => forL tg w ds ρ2 P, ct := fun ρ2 => forL tg w ds ρ2 P, bk := P.nx }
      (Po.Le.mk (fun ρ2 z => forI_go mt mw h1 h2 ds ρ2 z) (fun _ _ z => z) (fun _ z => z) (fun ρ2 z => forI_go mt mw h1 h2 ds ρ2 z) rfl) z) (h2 d ds ρ h)
def whileI (c : WT) (w : WS) : WS := fun ρ P => ∃ (I : Nat → List Sl → Prop) (n : Nat), I n ρ ∧ ∀ n ρ, I n ρ → c ρ P.xq fun b ρ' => if b = true then w ρ' { P with nx := fun ρ2 => ∃ m, m < n ∧ I m ρ2, ct := fun ρ2 => ∃ m, m < n ∧ I m ρ2, bk := P.nx } else P.nx ρ'
theorem whileI_mono {c : WT} {w : WS} (mc : MonoT c) (mw : MonoW w) : MonoW (whileI c w) := fun ρ P P' h ⟨I, n, q1, q2⟩ => by
  obtain ⟨nx, rt, bk, ct, xq⟩ := P
  obtain ⟨nx', rt', bk', ct', xq'⟩ := P'
  obtain rfl : xq' = xq := h.xq
  refine ⟨I, n, q1, fun n ρ z => ?_⟩
  refine mc _ _ _ _ (fun b ρ' z => ?_) (q2 n ρ z)
  cases b with
  | true => exact mw ρ' { nx := fun ρ2 => ∃ m, m < n ∧ I m ρ2, rt := rt, bk := nx, ct := fun ρ2 => ∃ m, m < n ∧ I m ρ2, xq := xq' } { nx := fun ρ2 => ∃ m, m < n ∧ I m ρ2, rt := rt', bk := nx', ct := fun ρ2 => ∃ m, m < n ∧ I m ρ2, xq := xq' } (Po.Le.mk (fun _ z => z) h.rt h.nx (fun _ z => z) rfl) z
  | false => exact h.nx _ z
theorem whileN_up {c : WT} {w : WS} (mc : MonoT c) (mw : MonoW w) {P : Po} : ∀ {n m : Nat} {ρ : List Sl}, n ≤ m → whileN c w n ρ P → whileN c w m ρ P
  | 0, _, _, _, h => h.elim
  | n + 1, 0, _, l, _ => absurd l (by omega)
  | n + 1, m + 1, ρ, l, h => by
    unfold whileN at h ⊢
    refine mc _ _ _ _ (fun b ρ' z => ?_) h
    cases b with
    | true => exact mw ρ' { P with nx := fun ρ2 => whileN c w n ρ2 P, ct := fun ρ2 => whileN c w n ρ2 P, bk := P.nx } { P with nx := fun ρ2 => whileN c w m ρ2 P, ct := fun ρ2 => whileN c w m ρ2 P, bk := P.nx } (Po.Le.mk (fun _ z => whileN_up mc mw (Nat.le_of_succ_le_succ l) z) (fun _ _ z => z) (fun _ z => z) (fun _ z => whileN_up mc mw (Nat.le_of_succ_le_succ l) z) rfl) z
    | false => exact z
theorem whileI_go {c : WT} {w : WS} {P : Po} {I : Nat → List Sl → Prop} (mc : MonoT c) (mw : MonoW w) (h : ∀ n ρ, I n ρ → c ρ P.xq fun b ρ' => if b = true then w ρ' { P with nx := fun ρ2 => ∃ m, m < n ∧ I m ρ2, ct := fun ρ2 => ∃ m, m < n ∧ I m ρ2, bk := P.nx } else P.nx ρ') :
    ∀ (k n : Nat) (ρ : List Sl), n < k → I n ρ → whileN c w k ρ P
  | 0, n, ρ, l, _ => absurd l (by omega)
  | k + 1, n, ρ, l, z => by
    unfold whileN
    refine mc _ _ _ _ (fun b ρ' z => ?_) (h n ρ z)
    cases b with
    | true =>
      refine mw ρ' { P with nx := fun ρ2 => ∃ m, m < n ∧ I m ρ2, ct := fun ρ2 => ∃ m, m < n ∧ I m ρ2, bk := P.nx } { P with nx := fun ρ2 => whileN c w k ρ2 P, ct := fun ρ2 => whileN c w k ρ2 P, bk := P.nx } (Po.Le.mk ?_ (fun _ _ z => z) (fun _ z => z) ?_ rfl) z
      · exact fun ρ2 ⟨m, lm, z⟩ => whileI_go mc mw h k m ρ2 (by omega) z
      · exact fun ρ2 ⟨m, lm, z⟩ => whileI_go mc mw h k m ρ2 (by omega) z
    | false => exact z
/-- a turn of a comprehension: what comes of d -/
def turnC (vs : List Nat) (tg : WTg) (c : WT) (w : WE) : PyData → List Sl → (Option PyData → List Sl → Prop) → Prop := fun d ρ K => tg d ρ fun ρ1 => c ρ1 noX fun b ρ2 => if b = true then w ρ2 noX fun r ρ3 => ∃ y, r.d = some y ∧ K (some y) (wipeS ρ3 vs) else K none (wipeS ρ2 vs)
def CompI (us : List (Nat × List PyData)) (vs : List Nat) (tg : WTg) (c : WT) (w : WE) (ds : List PyData) (ρ : List Sl) (Q : List PyData → List Sl → Prop) : Prop := ∃ I : List PyData → List PyData → List Sl → Prop, I ds [] (wipeS ρ vs) ∧ (∀ ds acc ρ, I ds acc ρ → vwsOk us ρ) ∧ (∀ acc ρ2, I [] acc ρ2 → Q acc (keepS ρ ρ2 vs)) ∧
  ∀ d ds acc ρ, I (d :: ds) acc ρ → turnC vs tg c w d ρ fun o ρ2 => I ds (acc ++ o.toList) ρ2
def compI (wi : WI) (vs : List Nat) (tg : WTg) (c : WT) (w : WE) : WE := fun ρ xq Q => wi ρ xq fun ds us ρ' => ds.length ≤ sizeLine ∧ CompI us vs tg c w ds ρ' fun acc ρ2 => Q (.ol acc) ρ2
theorem compI_mono {wi : WI} {vs : List Nat} {tg : WTg} {c : WT} {w : WE} (mi : MonoI wi) : MonoE (compI wi vs tg c w) := fun ρ xq Q Q' h q =>
  mi _ _ _ _ (fun ds us ρ' ⟨z, I, q1, q2, q3, q4⟩ => ⟨z, I, q1, q2, fun acc ρ2 z => h _ _ (q3 acc ρ2 z), q4⟩) q
theorem compI_go {us : List (Nat × List PyData)} {vs : List Nat} {tg : WTg} {c : WT} {w : WE} {Q : List PyData → List Sl → Prop} {I : List PyData → List PyData → List Sl → Prop} (mt : MonoTg tg) (mc : MonoT c) (mw : MonoE w) (h1 : ∀ ds acc ρ, I ds acc ρ → vwsOk us ρ) (h2 : ∀ acc ρ2, I [] acc ρ2 → Q acc ρ2)
    (h3 : ∀ d ds acc ρ, I (d :: ds) acc ρ → turnC vs tg c w d ρ fun o ρ2 => I ds (acc ++ o.toList) ρ2) : ∀ (ds acc : List PyData) (ρ : List Sl), I ds acc ρ → compL us vs tg c w ds acc ρ Q
  | [], acc, ρ, h => ⟨h1 _ _ _ h, h2 _ _ h⟩
  | d :: ds, acc, ρ, h => ⟨h1 _ _ _ h, mt _ _ _ _ (fun ρ1 z => mc _ _ _ _ (fun b ρ2 z => by
      cases b with
      | true => exact mw _ _ _ _ (fun r ρ3 ⟨y, e, z⟩ => ⟨y, e, compI_go mt mc mw h1 h2 h3 ds _ _ z⟩) z
      | false =>
        have z : I ds (acc ++ ([] : List PyData)) (wipeS ρ2 vs) := z
        rw [List.append_nil] at z
        exact compI_go mt mc mw h1 h2 h3 ds _ _ z) z) (h3 d ds acc ρ h)⟩
section
variable {G : Wd} {T : Xd} {Wx : WX} {X : Cx}
theorem PS.le {st : Stmt} {w w' : WS} (h : PS X st (tS G T Wx w)) (i : ∀ ρ P, w' ρ P → w ρ P) : PS X st (tS G T Wx w') :=
  ⟨fun pins s σ H D I ⟨Ha, E, Fa, ρ, F, P, S, e, q⟩ => h.run pins s σ H D I ⟨Ha, E, Fa, ρ, F, P, S, e, i ρ P q⟩⟩
theorem PE.le {e : Expr} {w w' : WE} (h : PE X e (tE G T Wx w)) (i : ∀ ρ xq Q, w' ρ xq Q → w ρ xq Q) : PE X e (tE G T Wx w') :=
  ⟨fun pins s σ H Q I ⟨Ha, E, Fa, ρ, F, xq, S, xp, q⟩ => h.run pins s σ H Q I ⟨Ha, E, Fa, ρ, F, xq, S, xp, i _ _ _ q⟩⟩
theorem forI_for {wi : WI} {tg : WTg} {w : WS} (mi : MonoI wi) (mt : MonoTg tg) (mw : MonoW w) (ρ : List Sl) (P : Po) (h : forI wi tg w ρ P) : forS wi tg w ρ P :=
  mi _ _ _ _ (fun ds us ρ' ⟨e, I, q1, q2, q3⟩ => ⟨e, forI_go mt mw q2 q3 ds ρ' q1⟩) h
theorem whileI_while {c : WT} {w : WS} (mc : MonoT c) (mw : MonoW w) (ρ : List Sl) (P : Po) (h : whileI c w ρ P) : whileS c w ρ P := by
  obtain ⟨I, n, q1, q2⟩ := h
  exact ⟨n + 1, whileI_go mc mw q2 (n + 1) n ρ (Nat.lt_succ_self _) q1⟩
theorem compI_comp {wi : WI} {vs : List Nat} {tg : WTg} {c : WT} {w : WE} (mi : MonoI wi) (mt : MonoTg tg) (mc : MonoT c) (mw : MonoE w) (ρ : List Sl) (xq : XQ) (Q : R → List Sl → Prop) (h : compI wi vs tg c w ρ xq Q) : compE wi vs tg c w ρ xq Q :=
  mi _ _ _ _ (fun ds us ρ' ⟨z, I, q1, q2, q3, q4⟩ => ⟨z, compI_go mt mc mw q2 q3 q4 ds [] _ q1⟩) h
end
end Pd

/-! Pd16: the rules in short: each carries that its reading is monotone. -/
namespace Pd
open PySem L2 PyProof.Rows

structure Ee (G : Wd) (T : Xd) (Wx : WX) (X : Cx) (e : Expr) (w : WE) : Prop where
  m : MonoE w
  p : PE X e (tE G T Wx w)
structure Gg (G : Wd) (T : Xd) (Wx : WX) (X : Cx) (e : Expr) (w : WG) : Prop where
  m : MonoG w
  p : PE X e (tG G T Wx w)
structure Aa (G : Wd) (T : Xd) (Wx : WX) (X : Cx) (es : List Expr) (gs : List WG) : Prop where
  m : ∀ g ∈ gs, MonoG g
  p : PA X es (tAs G T Wx (seqA gs))
  l : gs.length = es.length
  pl : ∀ pos, (backTo pos (starEach es X.env)).any (·.1) = false
structure Kk (G : Wd) (T : Xd) (Wx : WX) (X : Cx) (kws : List Keyword) (gs : List WG) : Prop where
  m : ∀ g ∈ gs, MonoG g
  p : PK X kws (tAs G T Wx (seqA gs))
structure Tt (G : Wd) (T : Xd) (Wx : WX) (X : Cx) (e : Expr) (w : WT) : Prop where
  m : MonoT w
  p : PT X e (tTT G T Wx w)
structure Vv (G : Wd) (T : Xd) (Wx : WX) (X : Cx) (e : Expr) (w : WT) : Prop where
  m : MonoT w
  p : PW X e (tTT G T Wx w)
structure Ii (G : Wd) (T : Xd) (Wx : WX) (X : Cx) (tg e : Expr) (w : WI) : Prop where
  m : MonoI w
  p : PI X tg e (tI G T Wx w)
structure Tg (G : Wd) (X : Cx) (e : Expr) (ix : List Nat) (w : WTg) : Prop where
  m : MonoTg w
  p : PG X e (tTg G ix w)
structure Ps (G : Wd) (X : Cx) (es : List Expr) (ix : List Nat) : Prop where
  p : PGs X es (tTgs G ix (setsT ix))
structure Ss (G : Wd) (T : Xd) (Wx : WX) (X : Cx) (st : Stmt) (w : WS) : Prop where
  m : MonoW w
  p : PS X st (tS G T Wx w)
structure Bs (G : Wd) (T : Xd) (Wx : WX) (X : Cx) (sts : List Stmt) (w : WS) : Prop where
  m : MonoW w
  p : PSs X sts (tS G T Wx w)
section
variable {G : Wd} {T : Xd} {Wx : WX} {X : Cx} {k : Nat} {a b c e o : Expr} {es : List Expr} {pos : Pos}
theorem Ee.g {w : WE} (h : Ee G T Wx X e w) : Gg G T Wx X e (ofE w) := ⟨ofE_mono h.m, h.p⟩
/-! names, constants -/
theorem vG (i : Nat) {x : Str} (hN : X.N[i]? = some x := by rfl) (hv : Vis X.env.scope x := by first | exact Or.inl rfl | exact Or.inr (Or.inl rfl) | exact Or.inr (Or.inr rfl)) (hd : (x == ("__debug__" : Str)) = false := by decide) (hc : (x == ("__classdict__" : Str)) = false := by decide) : Gg G T Wx X (.Name x pos) (vwG i) :=
  ⟨vwG_mono, pe_vw (pe_var hN hv hd hc)⟩
theorem vE (i : Nat) {x : Str} (hN : X.N[i]? = some x := by rfl) (hv : Vis X.env.scope x := by first | exact Or.inl rfl | exact Or.inr (Or.inl rfl) | exact Or.inr (Or.inr rfl)) (hd : (x == ("__debug__" : Str)) = false := by decide) (hc : (x == ("__classdict__" : Str)) = false := by decide) : Ee G T Wx X (.Name x pos) (varE i) :=
  ⟨varE_mono, pe_varE (pe_var hN hv hd hc)⟩
theorem mE (i : Nat) {x : Str} (hN : X.N[i]? = some x := by rfl) (hv : Vis X.env.scope x := by first | exact Or.inl rfl | exact Or.inr (Or.inl rfl) | exact Or.inr (Or.inr rfl)) (hd : (x == ("__debug__" : Str)) = false := by decide) (hc : (x == ("__classdict__" : Str)) = false := by decide) : Ee G T Wx X (.Name x pos) (movE i) :=
  ⟨movE_mono, pe_movE (pe_var hN hv hd hc)⟩
theorem kI {i : Int} {j : Nat} : Ee G T Wx X (.Constant (.int i) j pos) (conE (.int i)) := ⟨conE_mono, pe_con pe_int fun _ _ _ => by unfold Has; rfl⟩
theorem kS {x : Str} {j : Nat} : Ee G T Wx X (.Constant (.str x) j pos) (conE (.str x)) := ⟨conE_mono, pe_con pe_str fun _ _ _ => by unfold Has; rfl⟩
theorem kB {x : Bool} {j : Nat} : Ee G T Wx X (.Constant (.bool x) j pos) (conE (.bool x)) := ⟨conE_mono, pe_con pe_bl fun _ _ _ => by unfold Has; rfl⟩
theorem kN {j : Nat} : Ee G T Wx X (.Constant .none j pos) (conE .none) := ⟨conE_mono, pe_con pe_non fun _ _ _ => by unfold Has; rfl⟩
/-! operators -/
section
variable {ga gb : WG}
theorem bAdd (pl : Plc G k Wx X) (ha : Gg G T Wx X a ga) (hb : Gg G T Wx X b gb) : Ee G T Wx X (.BinOp a .Add b pos) (primW pAdd (seqA [ga, gb])) := ⟨mono2 pAdd_mono ha.m hb.m, pe_binP pAdd_mono ha.m hb.m (o_add pl.K) ha.p hb.p⟩
theorem bSub (ha : Gg G T Wx X a ga) (hb : Gg G T Wx X b gb) : Ee G T Wx X (.BinOp a .Sub b pos) (primW pSub (seqA [ga, gb])) := ⟨mono2 pSub_mono ha.m hb.m, pe_binP pSub_mono ha.m hb.m o_sub ha.p hb.p⟩
theorem bMul (ha : Gg G T Wx X a ga) (hb : Gg G T Wx X b gb) : Ee G T Wx X (.BinOp a .Mult b pos) (primW pMul (seqA [ga, gb])) := ⟨mono2 pMul_mono ha.m hb.m, pe_binP pMul_mono ha.m hb.m o_mul ha.p hb.p⟩
theorem bMod (ha : Gg G T Wx X a ga) (hb : Gg G T Wx X b gb) : Ee G T Wx X (.BinOp a .Mod b pos) (primW pMod (seqA [ga, gb])) := ⟨mono2 pMod_mono ha.m hb.m, pe_binP pMod_mono ha.m hb.m o_mod ha.p hb.p⟩
theorem bDiv (ha : Gg G T Wx X a ga) (hb : Gg G T Wx X b gb) : Ee G T Wx X (.BinOp a .FloorDiv b pos) (primW pDiv (seqA [ga, gb])) := ⟨mono2 pDiv_mono ha.m hb.m, pe_binP pDiv_mono ha.m hb.m o_div ha.p hb.p⟩
theorem bPow (ha : Gg G T Wx X a ga) (hb : Gg G T Wx X b gb) : Ee G T Wx X (.BinOp a .Pow b pos) (primW pPow (seqA [ga, gb])) := ⟨mono2 pPow_mono ha.m hb.m, pe_binP pPow_mono ha.m hb.m o_pow ha.p hb.p⟩
theorem bShl (ha : Gg G T Wx X a ga) (hb : Gg G T Wx X b gb) : Ee G T Wx X (.BinOp a .LShift b pos) (primW pShl (seqA [ga, gb])) := ⟨mono2 pShl_mono ha.m hb.m, pe_binP pShl_mono ha.m hb.m o_shl ha.p hb.p⟩
theorem uNeg (ha : Gg G T Wx X a ga) : Ee G T Wx X (.UnaryOp .USub a pos) (primW pNeg (seqA [ga])) := ⟨mono1 pNeg_mono ha.m, pe_unP pNeg_mono ha.m o_neg ha.p⟩
/-- a comparison's operator over data -/
structure Co (G : Wd) (X : Cx) (op : CmpOp) (p : PwP) : Prop where
  m : MonoP p
  r : OpR X (compareOp op) (r2P G p)
theorem cEq (pl : Plc G k Wx X) : Co G X .Eq pEq := ⟨pEq_mono, o_eq pl.K pl.un⟩
theorem cNe (pl : Plc G k Wx X) : Co G X .NotEq pNe := ⟨pNe_mono, o_ne pl.K pl.un⟩
theorem cLt (pl : Plc G k Wx X) : Co G X .Lt pLt := ⟨pLt_mono, o_lt pl.K pl.un⟩
theorem cGt (pl : Plc G k Wx X) : Co G X .Gt pGt := ⟨pGt_mono, o_gt pl.K pl.un⟩
theorem cLe (pl : Plc G k Wx X) : Co G X .LtE pLe := ⟨pLe_mono, o_le pl.K pl.un⟩
theorem cGe (pl : Plc G k Wx X) : Co G X .GtE pGe := ⟨pGe_mono, o_ge pl.K pl.un⟩
theorem cIsN (pl : Plc G k Wx X) : Co G X .Is pIsN := ⟨pIsN_mono, o_isN⟩
theorem cNotN (pl : Plc G k Wx X) : Co G X .IsNot pNotN := ⟨pNotN_mono, o_notN⟩
theorem cIn (pl : Plc G k Wx X) : Co G X .In pIn := ⟨pIn_mono, o_in pl.K pl.un⟩
theorem cNin (pl : Plc G k Wx X) : Co G X .NotIn pNin := ⟨pNin_mono, o_nin pl.K pl.un⟩
theorem eCmp {op : CmpOp} {p : PwP} (h : Co G X op p) (ha : Gg G T Wx X a ga) (hb : Gg G T Wx X b gb) (hm : behindInMarks op b = false := by first | exact nomark _ (by decide) (by decide) | with_unfolding_all rfl) : Ee G T Wx X (.Compare a [op] [b] pos) (primW p (seqA [ga, gb])) := ⟨mono2 h.m ha.m hb.m, pe_cmpP h.m ha.m hb.m h.r ha.p hb.p hm⟩
theorem tCmp {op : CmpOp} {p : PwP} (h : Co G X op p) (ha : Gg G T Wx X a ga) (hb : Gg G T Wx X b gb) (hm : behindInMarks op b = false := by first | exact nomark _ (by decide) (by decide) | with_unfolding_all rfl) : Tt G T Wx X (.Compare a [op] [b] pos) (valT (primW p (seqA [ga, gb]))) := ⟨valT_mono (mono2 h.m ha.m hb.m), pt_cmpP h.m ha.m hb.m h.r ha.p hb.p hm⟩
theorem ixE (pl : Plc G k Wx X) (ha : Gg G T Wx X a ga) (hb : Gg G T Wx X b gb) (hs : PlainIx b := by intro _ _; rfl) : Ee G T Wx X (.Subscript a b pos) (primW pIx (seqA [ga, gb])) := ⟨mono2 pIx_mono ha.m hb.m, pe_ixP pIx_mono ha.m hb.m (o_ix pl.K) ha.p hb.p hs⟩
end
/-! a slice's parts -/
structure Oo (G : Wd) (T : Xd) (Wx : WX) (X : Cx) (e : Option Expr) (w : Option WE) : Prop where
  m : MonoO w
  p : PO X e (tPO G T Wx w)
theorem oN : Oo G T Wx X none none := ⟨trivial, po_none⟩
theorem oS {w : WE} (h : Ee G T Wx X e w) : Oo G T Wx X (some e) (some w) := ⟨h.m, po_some h.p⟩
theorem slE {lo hi : Option Expr} {p2 : Pos} {ga : WG} {wl wh : Option WE} (pl : Plc G k Wx X) (ha : Gg G T Wx X a ga) (hl : Oo G T Wx X lo wl) (hh : Oo G T Wx X hi wh) : Ee G T Wx X (.Subscript a (.Slice lo hi none p2) pos) (primW pSl (seqA [ga, partG wl, partG wh])) := by
  refine ⟨primW_mono pSl_mono (seqA_mono fun g hg => ?_), pe_slE ha.m hl.m hh.m pl.K ha.p hl.p hh.p⟩
  rcases List.mem_cons.mp hg with rfl | hg
  · exact ha.m
  · rcases List.mem_cons.mp hg with rfl | hg
    · exact partG_mono hl.m
    · rw [List.mem_singleton.mp hg]; exact partG_mono hh.m
/-! arguments, displays -/
theorem aN : Aa G T Wx X [] [] := ⟨fun g hg => (by cases hg), pa_seq_nil, rfl, fun _ => rfl⟩
theorem aC {g : WG} {gs : List WG} (h : Gg G T Wx X e g) (hs : Aa G T Wx X es gs) (he : starEach (e :: es) X.env = (false, eval e X.env) :: starEach es X.env := by rfl) (hp : ∀ pos, (backTo pos (starEach (e :: es) X.env)).any (·.1) = false := by intro _; rfl) : Aa G T Wx X (e :: es) (g :: gs) :=
  ⟨fun g' hg => by
    rcases List.mem_cons.mp hg with rfl | hg
    · exact h.m
    · exact hs.m g' hg, pa_seq_cons h.m (seqA_mono hs.m) h.p hs.p he, by rw [List.length_cons, List.length_cons, hs.l], hp⟩
theorem eTup {gs : List WG} {j : Nat} (h : Aa G T Wx X es gs) : Ee G T Wx X (.Tuple es j pos) (tupE (seqA gs)) := ⟨tupE_mono (seqA_mono h.m), pe_tupE (seqA_mono h.m) h.p⟩
theorem eLst {gs : List WG} (h : Aa G T Wx X es gs) : Ee G T Wx X (.List es pos) (lstE (seqA gs)) := ⟨lstE_mono (seqA_mono h.m), pe_lstE (seqA_mono h.m) h.p⟩
/-! tests -/
theorem tVal {w : WE} (h : Ee G T Wx X e w) (he : ∀ whole, isTrue e X.env whole = (do let v ← whole; standAt e.pos; holding [v] (truthy v)) := by intro _; rfl) : Tt G T Wx X e (valT w) := ⟨valT_mono h.m, pt_valT h.m h.p fun t ht => pt_val ht he⟩
theorem tNot {w : WT} (h : Tt G T Wx X e w) : Tt G T Wx X (.UnaryOp .Not e pos) (notT w) := ⟨notT_mono h.m, pt_notT h.m h.p⟩
theorem vAnd1 {w : WT} (h : Tt G T Wx X a w) : Vv G T Wx X (.BoolOp .And [a] pos) w := ⟨h.m, pw_and1T h.p⟩
theorem vOr1 {w : WT} (h : Tt G T Wx X a w) : Vv G T Wx X (.BoolOp .Or [a] pos) w := ⟨h.m, pw_or1T h.p⟩
theorem vAnd {w w2 : WT} (h : Tt G T Wx X a w) (h2 : Vv G T Wx X (.BoolOp .And (b :: es) pos) w2) : Vv G T Wx X (.BoolOp .And (a :: b :: es) pos) (andT w w2) := ⟨andT_mono h.m h2.m, pw_andT h.m h2.m h.p h2.p⟩
theorem vOr {w w2 : WT} (h : Tt G T Wx X a w) (h2 : Vv G T Wx X (.BoolOp .Or (b :: es) pos) w2) : Vv G T Wx X (.BoolOp .Or (a :: b :: es) pos) (orT w w2) := ⟨orT_mono h.m h2.m, pw_orT h.m h2.m h.p h2.p⟩
theorem tBool {op : BoolOp} {w : WT} (h : Vv G T Wx X (.BoolOp op es pos) w) : Tt G T Wx X (.BoolOp op es pos) w := ⟨h.m, h.p.pt⟩
theorem eAnd1 {w : WE} (h : Ee G T Wx X a w) : Ee G T Wx X (.BoolOp .And [a] pos) w := ⟨h.m, pe_one h.p⟩
theorem eOr1 {w : WE} (h : Ee G T Wx X a w) : Ee G T Wx X (.BoolOp .Or [a] pos) w := ⟨h.m, pe_one h.p⟩
theorem eAnd {w w2 : WE} (h : Ee G T Wx X a w) (h2 : Ee G T Wx X (.BoolOp .And (b :: es) pos) w2) : Ee G T Wx X (.BoolOp .And (a :: b :: es) pos) (andE w w2) := ⟨andE_mono h.m h2.m, pe_andE h.m h2.m h.p h2.p⟩
theorem eOr {w w2 : WE} (h : Ee G T Wx X a w) (h2 : Ee G T Wx X (.BoolOp .Or (b :: es) pos) w2) : Ee G T Wx X (.BoolOp .Or (a :: b :: es) pos) (orE w w2) := ⟨orE_mono h.m h2.m, pe_orE h.m h2.m h.p h2.p⟩
theorem eNot {w : WE} (h : Ee G T Wx X a w) : Ee G T Wx X (.UnaryOp .Not a pos) (notE w) := ⟨notE_mono h.m, pe_notE h.m h.p⟩
theorem eIf {c a b : Expr} {wc : WT} {wa wb : WE} (h : Tt G T Wx X c wc) (ha : Ee G T Wx X a wa) (hb : Ee G T Wx X b wb) : Ee G T Wx X (.IfExp c a b pos) (ifE wc wa wb) := ⟨ifE_mono h.m ha.m hb.m, pe_ifE h.m ha.m hb.m h.p ha.p hb.p⟩
/-! calls -/
theorem eB {id : String} {x : Str} {p : Pos} {pw : PwP} {g : WG} {gs : List WG} (hc : CallR X (.builtin id) (rP G pw)) (mp : MonoP pw) (hm : X.mg x = none) (ha : Aa G T Wx X (e :: es) (g :: gs)) (hpl : ∀ pos, (backTo pos (starEach es X.env)).any (·.1) = false := by intro _; rfl) (hg : Gl X x := by rfl) (hv : bootBuiltins x = some (.builtin id) := by rfl) (hn : x ≠ "__name__" := by decide) (hdb : (x == ("__debug__" : Str)) = false := by decide) (he : starEach (e :: es) X.env = (false, eval e X.env) :: starEach es X.env := by rfl) :
    Ee G T Wx X (.Call (.Name x p) (e :: es) [] pos) (primW pw (seqA (g :: gs))) := ⟨primW_mono mp (seqA_mono ha.m), pe_prim mp (seqA_mono ha.m) hc hg hm hv ha.p hn hdb he hpl⟩
/-- a def of the text, as its callers know it -/
structure Fd (P : Program) (w : World) (K : PySem.W.Frag) (mg : Str → Option Value) (base : Heap) (G : Wd) (T : Xd) (k n : Nat) (x : Str) (ps : List Str) (kl : List (List Str)) (φ : Spc) : Prop where
  ex : ∃ (f : Addr) (fd : FuncData), FnG P w K mg base k f fd n ps (spOf G T φ) ∧ mg x = some (.ref f) ∧ PySem.W.keepIn K (.ref f) = true ∧ (∀ us : List Value, us.length = n → bindArgs fd ⟨us, []⟩ = pure (ps.zip us)) ∧
    ∀ ks ∈ kl, ∀ us : List Value, us.length = ks.length → bindArgs fd ⟨[], ks.zip us⟩ = pure (ps.zip (permV .none ps ks us))
  m : MonoS φ
  l : ps.length = n
theorem Fd.imp {P : Program} {w : World} {K : PySem.W.Frag} {mg : Str → Option Value} {base : Heap} {n j : Nat} {x : Str} {ps : List Str} {kl : List (List Str)} {φ φ' : Spc} (F : Fd P w K mg base G T j n x ps kl φ) (m : MonoS φ') (h : ∀ as Q E, φ' as Q E → φ as Q E) : Fd P w K mg base G T j n x ps kl φ' := by
  obtain ⟨f, fd, h1, h2, h3, h4, h5⟩ := F.ex
  exact ⟨⟨f, fd, h1.imp h, h2, h3, h4, h5⟩, m, F.l⟩
theorem Fd.mono {P : Program} {w : World} {K : PySem.W.Frag} {mg : Str → Option Value} {base : Heap} {n j i : Nat} {x : Str} {ps : List Str} {kl : List (List Str)} {φ : Spc} (F : Fd P w K mg base G T j n x ps kl φ) (h : j ≤ i) : Fd P w K mg base G T i n x ps kl φ := by
  obtain ⟨f, fd, h1, h2, h3, h4, h5⟩ := F.ex
  exact ⟨⟨f, fd, h1.mono h, h2, h3, h4, h5⟩, F.m, F.l⟩
theorem eF {n j : Nat} {x : Str} {p : Pos} {ps : List Str} {kl : List (List Str)} {φ : Spc} {g : WG} {gs : List WG} (pl : Plc G k Wx X) (F : Fd X.prog X.w X.K X.mg X.base G T j n x ps kl φ) (hj : j ≤ k := by decide) (ha : Aa G T Wx X (e :: es) (g :: gs)) (hpl : ∀ pos, (backTo pos (starEach es X.env)).any (·.1) = false := by intro _; rfl) (hn : (e :: es).length = n := by rfl) (hg : Gl X x := by rfl) (hdb : (x == ("__debug__" : Str)) = false := by decide) (he : starEach (e :: es) X.env = (false, eval e X.env) :: starEach es X.env := by rfl) :
    Ee G T Wx X (.Call (.Name x p) (e :: es) [] pos) (callW φ (seqA (g :: gs))) := by
  obtain ⟨f, fd, h1, h2, h3, h4, h5⟩ := F.ex
  refine ⟨callW_mono F.m (seqA_mono ha.m), pe_callP h1 F.m (seqA_mono ha.m) (pl.room.mono hj) pl.gd pl.tk hg h2 h3 h4 (fun ρ xq Q h => ?_) ha.p hdb he hpl⟩
  have := seqA_len ha.m ρ xq Q h
  rw [ha.l, hn] at this
  exact this
theorem eF0 {j : Nat} {x : Str} {p : Pos} {ps : List Str} {kl : List (List Str)} {φ : Spc} (pl : Plc G k Wx X) (F : Fd X.prog X.w X.K X.mg X.base G T j 0 x ps kl φ) (hj : j ≤ k := by decide) (hg : Gl X x := by rfl) (hdb : (x == ("__debug__" : Str)) = false := by decide) :
    Ee G T Wx X (.Call (.Name x p) [] [] pos) (callW φ (seqA [])) := by
  obtain ⟨f, fd, h1, h2, h3, h4, h5⟩ := F.ex
  exact ⟨callW_mono F.m (seqA_mono fun g hg => nomatch hg), pe_callP0 h1 F.m (pl.room.mono hj) pl.gd pl.tk hg h2 h3 h4 hdb⟩
theorem kkN : Kk G T Wx X [] [] := ⟨fun g hg => (by cases hg), pk_seq_nil⟩
theorem kkC {nm : Option Str} {kpos : Pos} {kws : List Keyword} {g : WG} {gs : List WG} (h : Gg G T Wx X e g) (hs : Kk G T Wx X kws gs) : Kk G T Wx X (⟨nm, e, kpos⟩ :: kws) (g :: gs) :=
  ⟨fun g' hg => by
    rcases List.mem_cons.mp hg with rfl | hg
    · exact h.m
    · exact hs.m g' hg, pk_seq_cons h.m (seqA_mono hs.m) h.p hs.p⟩
theorem eK {n j : Nat} {x : Str} {p : Pos} {ps : List Str} {kl : List (List Str)} {φ : Spc} {kws : List Keyword} {gs : List WG} (ks : List Str) (pl : Plc G k Wx X) (F : Fd X.prog X.w X.K X.mg X.base G T j n x ps kl φ) (hj : j ≤ k := by decide) (ha : Kk G T Wx X kws gs) (hmem : ks ∈ kl := by decide) (hgl : gs.length = ks.length := by rfl) (hp : ∀ p ∈ ps, ks.idxOf p < ks.length := by decide)
    (hg : Gl X x := by rfl) (hdb : (x == ("__debug__" : Str)) = false := by decide) (hall : (backToKw pos (keywordEach kws X.env)).all (·.1.isSome) = true := by rfl) (hks : (backToKw pos (keywordEach kws X.env)).filterMap (·.1) = ks := by rfl)
    (hpl : ((backTo pos (starEach [] X.env)).any (·.1) || (backToKw pos (keywordEach kws X.env)).any (·.1.isNone)) = false := by rfl) : Ee G T Wx X (.Call (.Name x p) [] kws pos) (callW φ (permA ps ks (seqA gs))) := by
  obtain ⟨f, fd, h1, h2, h3, h4, h5⟩ := F.ex
  refine ⟨callW_mono F.m (permA_mono (seqA_mono ha.m)), pe_callKP h1 F.m (seqA_mono ha.m) (pl.room.mono hj) pl.gd pl.tk hg h2 h3 (h5 ks hmem) F.l hp (fun ρ xq Q h => ?_) ha.p hall hks hdb hpl⟩
  have := seqA_len ha.m ρ xq Q h
  rw [hgl] at this
  exact this
/-! ranges -/
theorem rg1 {p : Pos} {w : WE} (hm : X.mg "range" = none) (h : Ee G T Wx X a w) (hg : Gl X "range" := by rfl) (na : starEach [a] X.env = (false, eval a X.env) :: starEach [] X.env := by rfl) : RgE G T Wx X (.Call (.Name "range" p) [a] [] pos) (seqA [intG w]) := rg_1 h.m hg hm h.p na
theorem rg2 {p : Pos} {w w2 : WE} (hm : X.mg "range" = none) (h : Ee G T Wx X a w) (h2 : Ee G T Wx X b w2) (hg : Gl X "range" := by rfl) (na : starEach [a, b] X.env = (false, eval a X.env) :: starEach [b] X.env := by rfl) (nb : starEach [b] X.env = (false, eval b X.env) :: starEach [] X.env := by rfl) (hp : ∀ pos, (backTo pos (starEach [b] X.env)).any (·.1) = false := by intro _; rfl) :
    RgE G T Wx X (.Call (.Name "range" p) [a, b] [] pos) (seqA [intG w, intG w2]) := rg_2 h.m h2.m hg hm h.p h2.p na nb hp
theorem eTupRg {p : Pos} {wa : WA} (pl : Plc G k Wx X) (hm : X.mg "tuple" = none) (he : RgE G T Wx X e wa) (hg : Gl X "tuple" := by rfl) (na : starEach [e] X.env = (false, eval e X.env) :: starEach [] X.env := by rfl) : Ee G T Wx X (.Call (.Name "tuple" p) [e] [] pos) (primW pTupRg wa) := ⟨primW_mono pTupRg_mono he.1, pe_tupRgE pl.calm hg hm he na⟩
theorem eLstRg {p : Pos} {wa : WA} (pl : Plc G k Wx X) (hm : X.mg "list" = none) (he : RgE G T Wx X e wa) (hg : Gl X "list" := by rfl) (na : starEach [e] X.env = (false, eval e X.env) :: starEach [] X.env := by rfl) : Ee G T Wx X (.Call (.Name "list" p) [e] [] pos) (primW pLstRg wa) := ⟨primW_mono pLstRg_mono he.1, pe_lstRgE pl.calm hg hm he na⟩
/-! what is walked -/
theorem iSeqI {tg : Expr} {w : WG} (pl : Plc G k Wx X) (h : Gg G T Wx X e w) : Ii G T Wx X tg e (seqI w) := ⟨seqI_mono h.m, pi_seqI h.m pl.K h.p⟩
theorem iEnumI {w : WG} {p tpos : Pos} {elts : List Expr} {kk : Nat} (pl : Plc G k Wx X) (hm : X.mg "enumerate" = none) (h : Gg G T Wx X e w) (hg : Gl X "enumerate" := by rfl) (hs : starEach [e] X.env = [(false, eval e X.env)] := by rfl) : Ii G T Wx X (.Tuple elts kk tpos) (.Call (.Name "enumerate" p) [e] [] pos) (enumI w) := ⟨enumI_mono h.m, pi_enumI h.m pl.K hg hm h.p hs⟩
theorem iRng1I {tg : Expr} {p : Pos} {w : WG} (hm : X.mg "range" = none) (h : Gg G T Wx X a w) (hg : Gl X "range" := by rfl) (hs : starEach [a] X.env = [(false, eval a X.env)] := by rfl) : Ii G T Wx X tg (.Call (.Name "range" p) [a] [] pos) (rng1I (seqA [w])) :=
  have m : MonoA (seqA [w]) := seqA_mono fun g hg => by rw [List.mem_singleton.mp hg]; exact h.m
  ⟨rng1I_mono m, pi_rng1I m hg hm (pa_oneG h.m h.p hs) hs⟩
theorem iRng2I {tg : Expr} {p : Pos} {w w2 : WG} (hm : X.mg "range" = none) (h : Gg G T Wx X a w) (h2 : Gg G T Wx X b w2) (hg : Gl X "range" := by rfl) (hs : starEach [a, b] X.env = [(false, eval a X.env), (false, eval b X.env)] := by rfl) (hs2 : starEach [b] X.env = [(false, eval b X.env)] := by rfl) : Ii G T Wx X tg (.Call (.Name "range" p) [a, b] [] pos) (rng2I (seqA [w, w2])) :=
  have m1 : MonoA (seqA [w2]) := seqA_mono fun g hg => by rw [List.mem_singleton.mp hg]; exact h2.m
  have m : MonoA (seqA [w, w2]) := seqA_mono fun g hg => by
    rcases List.mem_cons.mp hg with rfl | hg
    · exact h.m
    · rw [List.mem_singleton.mp hg]; exact h2.m
  ⟨rng2I_mono m, pi_rng2I m hg hm (pa_seq_cons h.m m1 h.p (pa_oneG h2.m h2.p hs2) (by rw [hs, hs2])) hs hs2⟩
/-! targets -/
theorem gN (i : Nat) {x : Str} (hN : X.N.Nodup) (hi : X.N[i]? = some x := by rfl) (hx : Loc X.env.scope x := by first | exact Or.inl rfl | exact Or.inr rfl) (hf : X.fn x = true ∨ X.env.scope.names.lookup x = some .local := by first | exact .inl rfl | exact .inr rfl) : Tg G X (.Name x pos) [i] (nameT i) := ⟨nameT_mono, pg_nameT hN hi hx hf⟩
theorem gsN : Ps G X [] [] := ⟨pgs_nilT⟩
theorem gsC {i : Nat} {is : List Nat} (h : Tg G X e [i] (nameT i)) (hs : Ps G X es is) (ha : (assignEach (e :: es) X.env).map (·.2) = assign e X.env :: (assignEach es X.env).map (·.2) := by rfl) : Ps G X (e :: es) (i :: is) := ⟨pgs_consT h.p hs.p ha⟩
theorem gT {is : List Nat} {j : Nat} (pl : Plc G k Wx X) (h : Ps G X es is) (hn : (assignEach es X.env).length = is.length := by rfl) (hst : (assignEach es X.env).findIdx? (·.1) = none := by rfl) : Tg G X (.Tuple es j pos) is (tupT is) := ⟨tupT_mono, pg_tupT pl.calm pl.K h.p hn hst⟩
/-! comprehensions -/
structure Ts (G : Wd) (T : Xd) (Wx : WX) (X : Cx) (ifs : List Expr) (w : WT) : Prop where
  m : MonoT w
  p : PTs X ifs (tTT G T Wx w)
theorem tsN : Ts G T Wx X [] yesT := ⟨yesT_mono, pts_yes⟩
theorem ts1 {w : WT} (h : Tt G T Wx X c w) : Ts G T Wx X [c] w := ⟨h.m, pts_one h.p⟩
/-- a block's place -/
structure Blk (G : Wd) (k : Nat) (X Y : Cx) (scope : Scope) : Prop where
  ex : ∃ s H C cl fp, Y = X.blk s H scope (compEnvC scope cl C X.env) fp
theorem eComp {elt tg iter : Expr} {ifs : List Expr} {scope : Scope} {wi : WI} {wt : WTg} {wc : WT} {we : WE} {ix : List Nat} (own : List (Str × Nat)) (pl : Plc G k Wx X) (hN : X.N.Nodup) (hi : Ii G T Wx X tg iter wi)
    (hb : ∀ (s : Shared) (H : Hp) (C : Addr) (cl : List (Str × Addr)) (fp : List Addr), Plc G k (fun _ _ _ _ => False) (X.blk s H scope (compEnvC scope cl C X.env) fp) → Tg G (X.blk s H scope (compEnvC scope cl C X.env) fp) tg ix wt ∧ Ts G T (fun _ _ _ _ => False) (X.blk s H scope (compEnvC scope cl C X.env) fp) ifs wc ∧ Ee G T (fun _ _ _ _ => False) (X.blk s H scope (compEnvC scope cl C X.env) fp) elt we)
    (ok : blkC X.N X.env.scope scope own = true := by rfl) (hv : ∀ i ∈ ix, i ∈ own.map (·.2) := by decide) (hs : ∀ x, foldedSetIterable iter X.env x = pure x := by intro _; rfl) : Ee G T Wx X (.ListComp elt [⟨tg, iter, ifs, 0⟩] scope pos) (compI wi (own.map (·.2)) wt wc we) := by
  have hb' := fun s H C cl fp => hb s H C cl fp (pl.blk s H scope _ fp)
  have m := hb' {} (fun _ => none) 0 [] []
  exact ⟨compI_mono hi.m, PE.le (i := compI_comp hi.m m.1.m m.2.1.m m.2.2.m) <| pe_compE hi.m m.1.m m.2.1.m m.2.2.m hv pl.calm hN hi.p (blkOk_by ok) (fun s H C cl fp => (hb' s H C cl fp).1.p) (fun s H C cl fp => (hb' s H C cl fp).2.1.p) (fun s H C cl fp => (hb' s H C cl fp).2.2.p) hs⟩
/-! statements -/
theorem sComp (i : Nat) {y : Str} {py spos : Pos} {elt tg iter : Expr} {ifs : List Expr} {scope : Scope} {wi : WI} {wt : WTg} {wc : WT} {we : WE} {ix : List Nat} (own : List (Str × Nat)) (pl : Plc G k Wx X) (hN : X.N.Nodup) (hi : Ii G T Wx X tg iter wi)
    (hb : ∀ (s : Shared) (H : Hp) (C : Addr) (cl : List (Str × Addr)) (fp : List Addr), Plc G k (fun _ _ _ _ => False) (X.blk s H scope (compEnvC scope cl C X.env) fp) → Tg G (X.blk s H scope (compEnvC scope cl C X.env) fp) tg ix wt ∧ Ts G T (fun _ _ _ _ => False) (X.blk s H scope (compEnvC scope cl C X.env) fp) ifs wc ∧ Ee G T (fun _ _ _ _ => False) (X.blk s H scope (compEnvC scope cl C X.env) fp) elt we)
    (hsw : swapsWith (.ListComp elt [⟨tg, iter, ifs, 0⟩] scope pos) (some (.Name y py)) spos.line X.env = pure true := by exact sw_true rfl rfl rfl rfl) (hy : X.N[i]? = some y := by rfl) (hyl : X.env.scope.names.lookup y = some .local := by rfl)
    (ok : blkC X.N X.env.scope scope own = true := by rfl) (hv : ∀ i ∈ ix, i ∈ own.map (·.2) := by decide) (hs : ∀ x, foldedSetIterable iter X.env x = pure x := by intro _; rfl) : Ss G T Wx X (.Assign [.Name y py] (.ListComp elt [⟨tg, iter, ifs, 0⟩] scope pos) spos) (asgS i (compI wi (own.map (·.2)) wt wc we)) := by
  have hb' := fun s H C cl fp => hb s H C cl fp (pl.blk s H scope _ fp)
  have m := hb' {} (fun _ => none) 0 [] []
  exact ⟨asgS_mono (compI_mono hi.m), PS.le (i := fun ρ P => compI_comp hi.m m.1.m m.2.1.m m.2.2.m ρ P.xq _) <| ps_setCompS hi.m m.1.m m.2.1.m m.2.2.m hv pl.calm hN hy hyl hsw hi.p (blkOk_by ok) (fun s H C cl fp => (hb' s H C cl fp).1.p) (fun s H C cl fp => (hb' s H C cl fp).2.1.p) (fun s H C cl fp => (hb' s H C cl fp).2.2.p) hs⟩
theorem bN : Bs G T Wx X [] nxS := ⟨nxS_mono, pss_nilS⟩
theorem bC {st : Stmt} {rest : List Stmt} {w w2 : WS} (h : Ss G T Wx X st w) (h2 : Bs G T Wx X rest w2) : Bs G T Wx X (st :: rest) (seqS w w2) := ⟨seqS_mono h.m h2.m, pss_consS h.p h2.p⟩
theorem sAsg (i : Nat) {x : Str} {pos' : Pos} {w : WE} (hN : X.N.Nodup) (h : Ee G T Wx X e w) (hs : swapsWith e (some (.Name x pos')) pos.line X.env = pure false := by rfl) (hi : X.N[i]? = some x := by rfl) (hx : Loc X.env.scope x := by first | exact Or.inl rfl | exact Or.inr rfl) (hf : X.fn x = true ∨ X.env.scope.names.lookup x = some .local := by first | exact .inl rfl | exact .inr rfl) : Ss G T Wx X (.Assign [.Name x pos'] e pos) (asgS i w) :=
  ⟨asgS_mono h.m, ps_asgS h.m hN hi hx hf h.p hs⟩
theorem sIf {a b : List Stmt} {wc : WT} {wa wb : WS} (h : Tt G T Wx X c wc) (ha : Bs G T Wx X a wa) (hb : Bs G T Wx X b wb) : Ss G T Wx X (.If c a b pos) (ifS wc wa wb) := ⟨ifS_mono h.m ha.m hb.m, ps_ifS h.m h.p ha.p hb.p⟩
theorem sFor {tg iter : Expr} {bd : List Stmt} {wi : WI} {wt : WTg} {ix : List Nat} {w : WS} (pl : Plc G k Wx X) (hi : Ii G T Wx X tg iter wi) (hg : Tg G X tg ix wt) (hb : Bs G T Wx X bd w) (hs : ∀ x, foldedSetIterable iter X.env x = pure x := by intro _; rfl) : Ss G T Wx X (.For tg iter bd [] pos) (forI wi wt w) :=
  ⟨forI_mono hi.m hg.m hb.m, PS.le (i := forI_for hi.m hg.m hb.m) <| ps_forS hi.m hg.m hb.m pl.pass pl.calm hi.p hg.p hb.p hs⟩
theorem sWhile {bd : List Stmt} {wc : WT} {w : WS} (pl : Plc G k Wx X) (h : Tt G T Wx X c wc) (hb : Bs G T Wx X bd w) : Ss G T Wx X (.While c bd [] pos) (whileI wc w) := ⟨whileI_mono h.m hb.m, PS.le (i := whileI_while h.m hb.m) <| ps_whileS h.m hb.m pl.pass h.p hb.p⟩
theorem sRet {w : WE} (h : Ee G T Wx X e w) : Ss G T Wx X (.Return (some e) pos) (retS w) := ⟨retS_mono h.m, ps_retS h.m h.p⟩
theorem sRtn : Ss G T Wx X (.Return none pos) rtnS := ⟨rtnS_mono, ps_rtnS⟩
theorem sBrk : Ss G T Wx X (.Break pos) brkS := ⟨brkS_mono, ps_brkS⟩
theorem sCnt : Ss G T Wx X (.Continue pos) cntS := ⟨cntS_mono, ps_cntS⟩
theorem sPass : Ss G T Wx X (.Pass pos) nxS := ⟨nxS_mono, ps_passS⟩
theorem sExpr {w : WE} (h : Ee G T Wx X e w) (hs : swapsWith e none pos.line X.env = pure false := by rfl) : Ss G T Wx X (.Expr e pos) (dropS w) := ⟨dropS_mono h.m, ps_dropS h.m h.p hs⟩
theorem sPar2 (i j : Nat) {x y : Str} {px py pt : Pos} {kt k2 : Nat} {pt2 : Pos} {w1 w2 : WE} (pl : Plc G k Wx X) (hN : X.N.Nodup) (h1 : Ee G T Wx X a w1) (h2 : Ee G T Wx X b w2) (hi : X.N[i]? = some x := by rfl) (hj : X.N[j]? = some y := by rfl) (hij : i ≠ j := by decide)
    (hx : X.env.scope.names.lookup x = some .local := by rfl) (hy : X.env.scope.names.lookup y = some .local := by rfl) (s1 : starEach [a, b] X.env = (false, eval a X.env) :: starEach [b] X.env := by rfl) (s2 : starEach [b] X.env = (false, eval b X.env) :: starEach [] X.env := by rfl)
    (hw : swappedStores [.Tuple [.Name x px, .Name y py] kt pt] (.Tuple [a, b] k2 pt2) X.env = pure (some [x, y]) := by rfl) (hs : swapsWithSole [.Tuple [.Name x px, .Name y py] kt pt] (.Tuple [a, b] k2 pt2) pos.line X.env = pure false := by rfl) :
    Ss G T Wx X (.Assign [.Tuple [.Name x px, .Name y py] kt pt] (.Tuple [a, b] k2 pt2) pos) (parS2 i j w1 w2) := ⟨parS2_mono h1.m h2.m, ps_parS2 h1.m h2.m pl.calm hN hi hj hij hx hy h1.p h2.p s1 s2 hw hs⟩
theorem sPar3 (i j l : Nat) {x y z : Str} {px py pz pt : Pos} {kt k2 : Nat} {pt2 : Pos} {w1 w2 w3 : WE} (pl : Plc G k Wx X) (hN : X.N.Nodup) (h1 : Ee G T Wx X a w1) (h2 : Ee G T Wx X b w2) (h3 : Ee G T Wx X c w3) (hi : X.N[i]? = some x := by rfl) (hj : X.N[j]? = some y := by rfl) (hl : X.N[l]? = some z := by rfl) (hij : i ≠ j := by decide) (hil : i ≠ l := by decide) (hjl : j ≠ l := by decide)
    (hx : X.env.scope.names.lookup x = some .local := by rfl) (hy : X.env.scope.names.lookup y = some .local := by rfl) (hz : X.env.scope.names.lookup z = some .local := by rfl) (s1 : starEach [a, b, c] X.env = (false, eval a X.env) :: starEach [b, c] X.env := by rfl) (s2 : starEach [b, c] X.env = (false, eval b X.env) :: starEach [c] X.env := by rfl) (s3 : starEach [c] X.env = (false, eval c X.env) :: starEach [] X.env := by rfl)
    (hw : swappedStores [.Tuple [.Name x px, .Name y py, .Name z pz] kt pt] (.Tuple [a, b, c] k2 pt2) X.env = pure (some [x, y, z]) := by rfl) (hs : swapsWithSole [.Tuple [.Name x px, .Name y py, .Name z pz] kt pt] (.Tuple [a, b, c] k2 pt2) pos.line X.env = pure false := by rfl) :
    Ss G T Wx X (.Assign [.Tuple [.Name x px, .Name y py, .Name z pz] kt pt] (.Tuple [a, b, c] k2 pt2) pos) (parS3 i j l w1 w2 w3) := ⟨parS3_mono h1.m h2.m h3.m, ps_parS3 h1.m h2.m h3.m pl.calm hN hi hj hl hij hil hjl hx hy hz h1.p h2.p h3.p s1 s2 s3 hw hs⟩
theorem sUnp {is : List Nat} {tg : Expr} {w : WE} (hg : Tg G X tg is (tupT is)) (h : Ee G T Wx X e w) (hs : swapsWithSole [tg] e pos.line X.env = pure false := by rfl) (hw : swappedStores [tg] e X.env = pure none := by rfl) (h1 : (assignEach [tg] X.env).map (·.2) = [assign tg X.env] := by rfl) : Ss G T Wx X (.Assign [tg] e pos) (unpS is w) := ⟨unpS_mono h.m, ps_unpS h.m hg.p h.p hs hw h1⟩
theorem sSet (i : Nat) {x : Str} {ix : Expr} {px pos2 : Pos} {wv wi : WE} (hi : Ee G T Wx X ix wi) (h : Ee G T Wx X e wv) (ha : ∀ v, assign (.Subscript (.Name x px) ix pos) X.env v = (do
      let ov ← holding [v] (eval (.Name x px) X.env)
      let iv ← holding [v, ov] (eval ix X.env)
      standAt pos
      holding [v, ov, iv] (setItem ov iv v)
      release [v, ov, iv] []) := by intro _; rfl) (hs : swapsWithSole [.Subscript (.Name x px) ix pos] e pos2.line X.env = pure false := by rfl) (hw : swappedStores [.Subscript (.Name x px) ix pos] e X.env = pure none := by rfl) (h1 : (assignEach [.Subscript (.Name x px) ix pos] X.env).map (·.2) = [assign (.Subscript (.Name x px) ix pos) X.env] := by rfl)
    (hN : X.N[i]? = some x := by rfl) (hv : Vis X.env.scope x := by first | exact Or.inl rfl | exact Or.inr (Or.inl rfl) | exact Or.inr (Or.inr rfl)) (hd : (x == ("__debug__" : Str)) = false := by decide) (hc : (x == ("__classdict__" : Str)) = false := by decide) :
    Ss G T Wx X (.Assign [.Subscript (.Name x px) ix pos] e pos2) (setS i wv wi) := ⟨setS_mono h.m hi.m, ps_setS h.m hi.m (pe_var hN hv hd hc) hi.p h.p ha hs hw h1⟩
/-! methods -/
theorem eM0 (i : Nat) {x name : Str} {px apos : Pos} {id : String} {p : MtD} {r : V → List V → Hp → VK → Prop} (mp : MonoM p) (ok : MtOk G.K r p) (slot : Slot "list" name id) (hty : typeOf (.builtin id) = pure (.type "method_descriptor")) (hm : MtR X id r) (pl : Plc G k Wx X)
    (hbase : attributeBase (.Name x px) name X.env (eval (.Name x px) X.env) = eval (.Name x px) X.env := by rfl) (hline : (apos.endLine == pos.line) = true := by rfl) (hN : X.N[i]? = some x := by rfl) (hv : Vis X.env.scope x := by first | exact Or.inl rfl | exact Or.inr (Or.inl rfl) | exact Or.inr (Or.inr rfl)) (hd : (x == ("__debug__" : Str)) = false := by decide) (hc : (x == ("__classdict__" : Str)) = false := by decide) :
    Ee G T Wx X (.Call (.Attribute (.Name x px) name apos) [] [] pos) (mthE i (seqA []) p) := ⟨mthE_mono (seqA_mono fun g hg => nomatch hg) mp, pe_mth0 mp ok pl.K PySem.F.plainAttrs_list slot hty hm (pe_var hN hv hd hc) hbase hline⟩
theorem eM (i : Nat) {x name : Str} {px apos : Pos} {id : String} {p : MtD} {r : V → List V → Hp → VK → Prop} {gs : List WG} (mp : MonoM p) (ok : MtOk G.K r p) (slot : Slot "list" name id) (hty : typeOf (.builtin id) = pure (.type "method_descriptor")) (hm : MtR X id r) (pl : Plc G k Wx X) (ha : Aa G T Wx X (e :: es) gs)
    (hbase : attributeBase (.Name x px) name X.env (eval (.Name x px) X.env) = eval (.Name x px) X.env := by rfl)
    (hfew : ((backTo pos (starEach (e :: es) X.env)).all (fun x => !x.1) && (backToKw pos (keywordEach [] X.env)).all (fun x => x.1.isSome) && decide ((e :: es).length + ([] : List Keyword).length + (if ([] : List Keyword).isEmpty then 0 else 1) < 30)) = true := by rfl)
    (hline : (apos.endLine == pos.line) = true := by rfl) (hs : starEach (e :: es) X.env = (false, eval e X.env) :: starEach es X.env := by rfl) (hplain : (backTo pos (starEach es X.env)).any (·.1) = false := by rfl) (hN : X.N[i]? = some x := by rfl) (hv : Vis X.env.scope x := by first | exact Or.inl rfl | exact Or.inr (Or.inl rfl) | exact Or.inr (Or.inr rfl)) (hd : (x == ("__debug__" : Str)) = false := by decide) (hc : (x == ("__classdict__" : Str)) = false := by decide) :
    Ee G T Wx X (.Call (.Attribute (.Name x px) name apos) (e :: es) [] pos) (mthE i (seqA gs) p) := ⟨mthE_mono (seqA_mono ha.m) mp, pe_mth mp (seqA_mono ha.m) ok pl.K PySem.F.plainAttrs_list slot hty hm (pe_var hN hv hd hc) ha.p hbase hfew hline hs hplain⟩
end
end Pd

/-! Pd17: built-ins by name. -/
namespace Pd
open PySem L2 PyProof.Rows

section
variable {G : Wd} {T : Xd} {Wx : WX} {X : Cx} {k : Nat} {a b c e o : Expr} {es : List Expr} {pos p : Pos} {g : WG} {gs : List WG}
theorem eTy {id : String} {x : Str} {pw : PwP} (hc : CallR X (.type id) (rP G pw)) (mp : MonoP pw) (hm : X.mg x = none) (ha : Aa G T Wx X (e :: es) (g :: gs)) (hpl : ∀ pos, (backTo pos (starEach es X.env)).any (·.1) = false := by intro _; rfl) (hg : Gl X x := by rfl) (hv : bootBuiltins x = some (.type id) := by rfl) (hn : x ≠ "__name__" := by decide) (hdb : (x == ("__debug__" : Str)) = false := by decide) (he : starEach (e :: es) X.env = (false, eval e X.env) :: starEach es X.env := by rfl) :
    Ee G T Wx X (.Call (.Name x p) (e :: es) [] pos) (primW pw (seqA (g :: gs))) := by
  refine ⟨primW_mono mp (seqA_mono ha.m), ⟨fun pins s σ H Q I h => ?_⟩⟩
  obtain ⟨Ha, E, Fa, ρ, F, xq, S, xp, h⟩ := h
  unfold ofE primW at h
  refine (pe_callTy hc hg hm hv ha.p hn hdb he (hpl pos)).run pins s σ H Q I ?_
  refine tAs.mk (seqA_mono ha.m) S xp h fun avs ρ' vs H' F' f q r => ?_
  obtain ⟨ds, e1, q⟩ := q
  exact primW.go mp r e1 q fun r ρ' v H' F' f q rs => q v H' F' f rs
theorem bLen (hm : X.mg "len" = none) (ha : Aa G T Wx X (e :: es) (g :: gs)) (hpl : ∀ pos, (backTo pos (starEach es X.env)).any (·.1) = false := by intro _; rfl) (hg : Gl X "len" := by rfl) (he : starEach (e :: es) X.env = (false, eval e X.env) :: starEach es X.env := by rfl) : Ee G T Wx X (.Call (.Name "len" p) (e :: es) [] pos) (primW pLen (seqA (g :: gs))) :=
  eB c_len pLen_mono hm ha hpl hg PySem.boot_len (by decide) (by decide) he
theorem bAbs (hm : X.mg "abs" = none) (ha : Aa G T Wx X (e :: es) (g :: gs)) (hpl : ∀ pos, (backTo pos (starEach es X.env)).any (·.1) = false := by intro _; rfl) (hg : Gl X "abs" := by rfl) (he : starEach (e :: es) X.env = (false, eval e X.env) :: starEach es X.env := by rfl) : Ee G T Wx X (.Call (.Name "abs" p) (e :: es) [] pos) (primW pAbs (seqA (g :: gs))) :=
  eB c_abs pAbs_mono hm ha hpl hg (by rfl) (by decide) (by decide) he
theorem bSum (pl : Plc G k Wx X) (hm : X.mg "sum" = none) (ha : Aa G T Wx X (e :: es) (g :: gs)) (hpl : ∀ pos, (backTo pos (starEach es X.env)).any (·.1) = false := by intro _; rfl) (hg : Gl X "sum" := by rfl) (he : starEach (e :: es) X.env = (false, eval e X.env) :: starEach es X.env := by rfl) : Ee G T Wx X (.Call (.Name "sum" p) (e :: es) [] pos) (primW pSum (seqA (g :: gs))) :=
  eB (c_sum pl.K pl.calm) pSum_mono hm ha hpl hg (by rfl) (by decide) (by decide) he
theorem bMin (pl : Plc G k Wx X) (hm : X.mg "min" = none) (ha : Aa G T Wx X (e :: es) (g :: gs)) (hpl : ∀ pos, (backTo pos (starEach es X.env)).any (·.1) = false := by intro _; rfl) (hg : Gl X "min" := by rfl) (he : starEach (e :: es) X.env = (false, eval e X.env) :: starEach es X.env := by rfl) : Ee G T Wx X (.Call (.Name "min" p) (e :: es) [] pos) (primW pMin (seqA (g :: gs))) :=
  eB (c_min pl.K pl.calm pl.un) pMin_mono hm ha hpl hg (by rfl) (by decide) (by decide) he
theorem bMax (pl : Plc G k Wx X) (hm : X.mg "max" = none) (ha : Aa G T Wx X (e :: es) (g :: gs)) (hpl : ∀ pos, (backTo pos (starEach es X.env)).any (·.1) = false := by intro _; rfl) (hg : Gl X "max" := by rfl) (he : starEach (e :: es) X.env = (false, eval e X.env) :: starEach es X.env := by rfl) : Ee G T Wx X (.Call (.Name "max" p) (e :: es) [] pos) (primW pMax (seqA (g :: gs))) :=
  eB (c_max pl.K pl.calm pl.un) pMax_mono hm ha hpl hg (by rfl) (by decide) (by decide) he
theorem bAny (pl : Plc G k Wx X) (hm : X.mg "any" = none) (ha : Aa G T Wx X (e :: es) (g :: gs)) (hpl : ∀ pos, (backTo pos (starEach es X.env)).any (·.1) = false := by intro _; rfl) (hg : Gl X "any" := by rfl) (he : starEach (e :: es) X.env = (false, eval e X.env) :: starEach es X.env := by rfl) : Ee G T Wx X (.Call (.Name "any" p) (e :: es) [] pos) (primW pAny (seqA (g :: gs))) :=
  eB (c_any pl.K pl.calm) pAny_mono hm ha hpl hg (by rfl) (by decide) (by decide) he
theorem bAll (pl : Plc G k Wx X) (hm : X.mg "all" = none) (ha : Aa G T Wx X (e :: es) (g :: gs)) (hpl : ∀ pos, (backTo pos (starEach es X.env)).any (·.1) = false := by intro _; rfl) (hg : Gl X "all" := by rfl) (he : starEach (e :: es) X.env = (false, eval e X.env) :: starEach es X.env := by rfl) : Ee G T Wx X (.Call (.Name "all" p) (e :: es) [] pos) (primW pAll (seqA (g :: gs))) :=
  eB (c_all pl.K pl.calm) pAll_mono hm ha hpl hg (by rfl) (by decide) (by decide) he
theorem bRepr (pl : Plc G k Wx X) (hm : X.mg "repr" = none) (ha : Aa G T Wx X (e :: es) (g :: gs)) (hpl : ∀ pos, (backTo pos (starEach es X.env)).any (·.1) = false := by intro _; rfl) (hg : Gl X "repr" := by rfl) (he : starEach (e :: es) X.env = (false, eval e X.env) :: starEach es X.env := by rfl) : Ee G T Wx X (.Call (.Name "repr" p) (e :: es) [] pos) (primW pRepr (seqA (g :: gs))) :=
  eB (c_repr pl.K pl.gd pl.un) pRepr_mono hm ha hpl hg (by rfl) (by decide) (by decide) he
theorem bInt (hm : X.mg "int" = none) (ha : Aa G T Wx X (e :: es) (g :: gs)) (hpl : ∀ pos, (backTo pos (starEach es X.env)).any (·.1) = false := by intro _; rfl) (hg : Gl X "int" := by rfl) (he : starEach (e :: es) X.env = (false, eval e X.env) :: starEach es X.env := by rfl) : Ee G T Wx X (.Call (.Name "int" p) (e :: es) [] pos) (primW pInt (seqA (g :: gs))) :=
  eTy c_int pInt_mono hm ha hpl hg (by rfl) (by decide) (by decide) he
theorem bStr (hm : X.mg "str" = none) (ha : Aa G T Wx X (e :: es) (g :: gs)) (hpl : ∀ pos, (backTo pos (starEach es X.env)).any (·.1) = false := by intro _; rfl) (hg : Gl X "str" := by rfl) (he : starEach (e :: es) X.env = (false, eval e X.env) :: starEach es X.env := by rfl) : Ee G T Wx X (.Call (.Name "str" p) (e :: es) [] pos) (primW pStr (seqA (g :: gs))) :=
  eTy c_str pStr_mono hm ha hpl hg (by rfl) (by decide) (by decide) he
theorem bTup (pl : Plc G k Wx X) (hm : X.mg "tuple" = none) (ha : Aa G T Wx X (e :: es) (g :: gs)) (hpl : ∀ pos, (backTo pos (starEach es X.env)).any (·.1) = false := by intro _; rfl) (hg : Gl X "tuple" := by rfl) (he : starEach (e :: es) X.env = (false, eval e X.env) :: starEach es X.env := by rfl) : Ee G T Wx X (.Call (.Name "tuple" p) (e :: es) [] pos) (primW pTup (seqA (g :: gs))) :=
  eTy c_tup pTup_mono hm ha hpl hg (by rfl) (by decide) (by decide) he
theorem bLst (pl : Plc G k Wx X) (hm : X.mg "list" = none) (ha : Aa G T Wx X (e :: es) (g :: gs)) (hpl : ∀ pos, (backTo pos (starEach es X.env)).any (·.1) = false := by intro _; rfl) (hg : Gl X "list" := by rfl) (he : starEach (e :: es) X.env = (false, eval e X.env) :: starEach es X.env := by rfl) : Ee G T Wx X (.Call (.Name "list" p) (e :: es) [] pos) (primW pLst (seqA (g :: gs))) :=
  eTy c_lst pLst_mono hm ha hpl hg (by rfl) (by decide) (by decide) he
/-! methods of one's own lists, by name -/
section
variable {x : Str} {px apos : Pos}
theorem mAppend (i : Nat) (pl : Plc G k Wx X) (ha : Aa G T Wx X (e :: es) gs)
    (hbase : attributeBase (.Name x px) "append" X.env (eval (.Name x px) X.env) = eval (.Name x px) X.env := by rfl)
    (hfew : ((backTo pos (starEach (e :: es) X.env)).all (fun x => !x.1) && (backToKw pos (keywordEach [] X.env)).all (fun x => x.1.isSome) && decide ((e :: es).length + ([] : List Keyword).length + (if ([] : List Keyword).isEmpty then 0 else 1) < 30)) = true := by rfl)
    (hline : (apos.endLine == pos.line) = true := by rfl) (hs : starEach (e :: es) X.env = (false, eval e X.env) :: starEach es X.env := by rfl) (hplain : (backTo pos (starEach es X.env)).any (·.1) = false := by rfl) (hN : X.N[i]? = some x := by rfl) (hv : Vis X.env.scope x := by first | exact Or.inl rfl | exact Or.inr (Or.inl rfl) | exact Or.inr (Or.inr rfl)) (hd : (x == ("__debug__" : Str)) = false := by decide) (hc : (x == ("__classdict__" : Str)) = false := by decide) :
    Ee G T Wx X (.Call (.Attribute (.Name x px) "append" apos) (e :: es) [] pos) (mthE i (seqA gs) mApp) :=
  eM i mApp_mono mt_app PySem.F.slot_list_append PySem.F.type_list_append mt_append pl ha hbase hfew hline hs hplain hN hv hd hc
theorem mInsert (i : Nat) (pl : Plc G k Wx X) (ha : Aa G T Wx X (e :: es) gs)
    (hbase : attributeBase (.Name x px) "insert" X.env (eval (.Name x px) X.env) = eval (.Name x px) X.env := by rfl)
    (hfew : ((backTo pos (starEach (e :: es) X.env)).all (fun x => !x.1) && (backToKw pos (keywordEach [] X.env)).all (fun x => x.1.isSome) && decide ((e :: es).length + ([] : List Keyword).length + (if ([] : List Keyword).isEmpty then 0 else 1) < 30)) = true := by rfl)
    (hline : (apos.endLine == pos.line) = true := by rfl) (hs : starEach (e :: es) X.env = (false, eval e X.env) :: starEach es X.env := by rfl) (hplain : (backTo pos (starEach es X.env)).any (·.1) = false := by rfl) (hN : X.N[i]? = some x := by rfl) (hv : Vis X.env.scope x := by first | exact Or.inl rfl | exact Or.inr (Or.inl rfl) | exact Or.inr (Or.inr rfl)) (hd : (x == ("__debug__" : Str)) = false := by decide) (hc : (x == ("__classdict__" : Str)) = false := by decide) :
    Ee G T Wx X (.Call (.Attribute (.Name x px) "insert" apos) (e :: es) [] pos) (mthE i (seqA gs) mIns) :=
  eM i mIns_mono mt_ins PySem.F.slot_list_insert PySem.F.type_list_insert mt_insert pl ha hbase hfew hline hs hplain hN hv hd hc
theorem mExtend (i : Nat) (pl : Plc G k Wx X) (ha : Aa G T Wx X (e :: es) gs)
    (hbase : attributeBase (.Name x px) "extend" X.env (eval (.Name x px) X.env) = eval (.Name x px) X.env := by rfl)
    (hfew : ((backTo pos (starEach (e :: es) X.env)).all (fun x => !x.1) && (backToKw pos (keywordEach [] X.env)).all (fun x => x.1.isSome) && decide ((e :: es).length + ([] : List Keyword).length + (if ([] : List Keyword).isEmpty then 0 else 1) < 30)) = true := by rfl)
    (hline : (apos.endLine == pos.line) = true := by rfl) (hs : starEach (e :: es) X.env = (false, eval e X.env) :: starEach es X.env := by rfl) (hplain : (backTo pos (starEach es X.env)).any (·.1) = false := by rfl) (hN : X.N[i]? = some x := by rfl) (hv : Vis X.env.scope x := by first | exact Or.inl rfl | exact Or.inr (Or.inl rfl) | exact Or.inr (Or.inr rfl)) (hd : (x == ("__debug__" : Str)) = false := by decide) (hc : (x == ("__classdict__" : Str)) = false := by decide) :
    Ee G T Wx X (.Call (.Attribute (.Name x px) "extend" apos) (e :: es) [] pos) (mthE i (seqA gs) mExt) :=
  eM i mExt_mono mt_ext PySem.F.slot_list_extend PySem.F.type_list_extend mt_extend pl ha hbase hfew hline hs hplain hN hv hd hc
theorem mPopK (i : Nat) (pl : Plc G k Wx X) (ha : Aa G T Wx X (e :: es) gs)
    (hbase : attributeBase (.Name x px) "pop" X.env (eval (.Name x px) X.env) = eval (.Name x px) X.env := by rfl)
    (hfew : ((backTo pos (starEach (e :: es) X.env)).all (fun x => !x.1) && (backToKw pos (keywordEach [] X.env)).all (fun x => x.1.isSome) && decide ((e :: es).length + ([] : List Keyword).length + (if ([] : List Keyword).isEmpty then 0 else 1) < 30)) = true := by rfl)
    (hline : (apos.endLine == pos.line) = true := by rfl) (hs : starEach (e :: es) X.env = (false, eval e X.env) :: starEach es X.env := by rfl) (hplain : (backTo pos (starEach es X.env)).any (·.1) = false := by rfl) (hN : X.N[i]? = some x := by rfl) (hv : Vis X.env.scope x := by first | exact Or.inl rfl | exact Or.inr (Or.inl rfl) | exact Or.inr (Or.inr rfl)) (hd : (x == ("__debug__" : Str)) = false := by decide) (hc : (x == ("__classdict__" : Str)) = false := by decide) :
    Ee G T Wx X (.Call (.Attribute (.Name x px) "pop" apos) (e :: es) [] pos) (mthE i (seqA gs) mPopAt) :=
  eM i mPopAt_mono mt_popA PySem.F.slot_list_pop PySem.F.type_list_pop mt_popAt pl ha hbase hfew hline hs hplain hN hv hd hc
theorem mPop1 (i : Nat) (pl : Plc G k Wx X)
    (hbase : attributeBase (.Name x px) "pop" X.env (eval (.Name x px) X.env) = eval (.Name x px) X.env := by rfl)
    (hline : (apos.endLine == pos.line) = true := by rfl) (hN : X.N[i]? = some x := by rfl) (hv : Vis X.env.scope x := by first | exact Or.inl rfl | exact Or.inr (Or.inl rfl) | exact Or.inr (Or.inr rfl)) (hd : (x == ("__debug__" : Str)) = false := by decide) (hc : (x == ("__classdict__" : Str)) = false := by decide) :
    Ee G T Wx X (.Call (.Attribute (.Name x px) "pop" apos) [] [] pos) (mthE i (seqA []) mPop) :=
  eM0 i mPop_mono mt_popL PySem.F.slot_list_pop PySem.F.type_list_pop mt_pop pl hbase hline hN hv hd hc
end
end
end Pd

/-! Pd18: a def of the text with its promise. -/
namespace Pd
open PySem L2 PyProof.Rows

/-- a def as it stands behind the top -/
structure Wr (K : PySem.W.Frag) (mg : Str → Option Value) (x : Str) (st : Stmt) : Prop where
  ex : ∃ (f : Addr) (fd : FuncData), Fun K x x st f fd ∧ mg x = some (.ref f)
/-- how its arguments are bound, by places -/
def Bp (x : Str) (st : Stmt) (n : Nat) (ps : List Str) : Prop := ∀ (kV doc pm : Value) (an : Option Addr) (cdv ct : Value) (us : List Value), us.length = n → bindArgs (PySem.W.fnOf x x (defArgs st) (defBody st) (defScope st) .none kV doc pm an cdv ct) ⟨us, []⟩ = pure (ps.zip us)
def Bk (x : Str) (st : Stmt) (ps : List Str) (kl : List (List Str)) : Prop := ∀ ks ∈ kl, ∀ (kV doc pm : Value) (an : Option Addr) (cdv ct : Value) (us : List Value), us.length = ks.length → bindArgs (PySem.W.fnOf x x (defArgs st) (defBody st) (defScope st) .none kV doc pm an cdv ct) ⟨[], ks.zip us⟩ = pure (ps.zip (permV .none ps ks us))
theorem bk0 {x : Str} {st : Stmt} {ps : List Str} : Bk x st ps [] := fun ks h => nomatch h
theorem Fd.of {P : Program} {w : World} {K : PySem.W.Frag} {mg : Str → Option Value} {base : Heap} {G : Wd} {T : Xd} {k m n : Nat} {x : Str} {st : Stmt} {N ps : List Str} {kl : List (List Str)} {wb : WS} {φ : Spc} (W : Wr K mg x st) (S : FnScope N ps (defScope st)) (bp : Bp x st n ps) (bk : Bk x st ps kl) (hK : K = G.K) (hm : N.length = n + m) (hn : ps.length = n)
    (hb : ∀ (f : Addr) (cdv : Value) (A : Around) (outer : List Env) (s : Shared) (H : Hp) (E : XK), Plc G k (fun cls d _ H => E cls d H) (cxD P w K mg base N x (defScope st) f cdv A outer s H E) → Bs G T (fun cls d _ H => E cls d H) (cxD P w K mg base N x (defScope st) f cdv A outer s H E) (defBody st) wb)
    (c : ∀ as Q E, φ as Q E → body m wb as Q E) (mφ : MonoS φ) : Fd P w K mg base G T (k + 1) n x ps kl φ := by
  obtain ⟨f, fd, F, hg⟩ := W.ex
  have h1 := (fn_body F S hK hm hn fun cdv A outer s H E pl => (hb f cdv A outer s H E pl).p).imp c
  obtain ⟨oc, od, kV, doc, pm, an, cdv, ct, osl, rfl, lk, hcd⟩ := F.ex
  exact ⟨⟨f, _, h1, hg, F.kp, fun us => bp kV doc pm an cdv ct us, fun ks hk us => bk ks hk kV doc pm an cdv ct us⟩, mφ, hn⟩
/-- by a reading of the body over states of its own (for what draws) -/
theorem Fd.raw {P : Program} {w : World} {K : PySem.W.Frag} {mg : Str → Option Value} {base : Heap} {G : Wd} {T : Xd} {k n : Nat} {x : Str} {st : Stmt} {N ps : List Str} {kl : List (List Str)} {φ : Spc} (W : Wr K mg x st) (S : FnScope N ps (defScope st)) (bp : Bp x st n ps) (bk : Bk x st ps kl) (hK : K = G.K) (hn : ps.length = n)
    (hb : ∀ (f : Addr) (cdv : Value) (A : Around) (outer : List Env) (s : Shared) (H : Hp) (vs : List V) (Q : VK) (E : XK), Plc G k (fun cls d _ H => E cls d H) (cxD P w K mg base N x (defScope st) f cdv A outer s H E) → vs.length = n → spOf G T φ vs H Q E →
      ∃ t, PSs (cxD P w K mg base N x (defScope st) f cdv A outer s H E) (defBody st) t ∧ t { nx := fun _ H' => Q .non H', rt := Q } (L2.start N vs) H) (mφ : MonoS φ) : Fd P w K mg base G T (k + 1) n x ps kl φ := by
  obtain ⟨f, fd, F, hg⟩ := W.ex
  obtain ⟨oc, od, kV, doc, pm, an, cdv, ct, osl, rfl, lk, hcd⟩ := F.ex
  exact ⟨⟨f, _, fn_raw F S hK hn fun cdv A outer s H vs Q E pl hl hsp => hb f cdv A outer s H vs Q E pl hl hsp, hg, F.kp, fun us => bp kV doc pm an cdv ct us, fun ks hk us => bk ks hk kV doc pm an cdv ct us⟩, mφ, hn⟩
end Pd

/-! Pd19: pots: what one draws of. -/
namespace Pd
open PySem L2 PyProof.Rows

section
variable {G : Wd} {T : Xd} {Wx : WX} {X : Cx} {Ha : Hp} {E : Av} {Fa : Fo} {σ : L2.St} {H H' : Hp} {ρ : List Sl} {F F1 : Fo} {xq : XQ} {W : Av}
/-- a pot is drawn of -/
theorem St.potS {i : Nat} {b : Bool} {v : V} (S : St G Ha E Fa σ H ρ F) (e : ρ[i]? = some (.pot b)) (ev : σ[i]? = some (some v)) (hk : ∀ a o, H a = some o → a ∉ F i → H' a = some o) (hd : ∀ a, H a ≠ none → H' a ≠ none) (hp : G.pt H' (F i) v) : St G Ha E Fa σ H' ρ F ∧ Fr H F H' F := by
  have fr : Fr H F H' F := ⟨fun a o h n => hk a o h fun q => n ⟨i, q⟩, hd, fun a h => .inl h⟩
  refine ⟨⟨S.len, fun j s es => ?_, S.nof, S.dj, S.ex, fun a h => hd a (S.vd a h), S.fr.trans fr, S.bo, S.ub⟩, fr⟩
  by_cases q : j = i
  · subst q
    rw [e] at es
    cases es
    exact ⟨v, by rw [ev]; rfl, hp⟩
  · refine (S.sl j s es).mv ⟨fun a o h n => hk a o h fun z => n (.inr ⟨i, z⟩), fun a h => .inl h⟩ fun a h => ?_
    cases w : H a with
    | none => exact absurd w (S.fd ⟨j, h⟩)
    | some o => exact hk a o w fun z => q (S.dj j i a h z)
end
/-! ### the stock: two lists of ints and two ints in a list -/
def stk (H : Hp) (f : List Addr) (v : V) : Prop := ∃ (a b c : Addr) (ns ms : List Int) (S j : Int), f = [a, b, c] ∧ v = .ref a ∧ a ≠ b ∧ a ≠ c ∧ b ≠ c ∧ H a = some (.lst [.ref b, .ref c, .int S, .int j]) ∧
  H b = some (.lst (ns.map V.int)) ∧ H c = some (.lst (ms.map V.int)) ∧ ms ≠ [] ∧ ns.length ≤ 64
def Gs (K : PySem.W.Frag) : Wd where
  K := K
  pt := stk
  mv := fun {H H' f v} h e => by
    obtain ⟨a, b, c, ns, ms, S, j, rfl, rfl, h1, h2, h3, h4, h5, h6, h7, h8⟩ := h
    exact ⟨a, b, c, ns, ms, S, j, rfl, rfl, h1, h2, h3, (e a (by simp)).trans h4, (e b (by simp)).trans h5, (e c (by simp)).trans h6, h7, h8⟩
  tr := fun {H f v} h a ha => by
    obtain ⟨p, b, c, ns, ms, S, j, rfl, rfl, h1, h2, h3, h4, h5, h6, h7, h8⟩ := h
    have z : a = p ∨ a = b ∨ a = c := by simpa using ha
    rcases z with rfl | rfl | rfl
    · rw [h4]; simp
    · rw [h5]; simp
    · rw [h6]; simp
  hd := fun {H f v} h => by
    obtain ⟨p, b, c, ns, ms, S, j, rfl, rfl, _⟩ := h
    exact ⟨p, [b, c], rfl, rfl⟩
/-- what a draw promises -/
def φDraw : Spc := fun as Q _ => ∃ n : Nat, as = [.pot true, .sh (.int n)] ∧ 0 < n ∧ n < 1073741824 ∧ ∀ i : Nat, i < n → Q (.sh (.int i)) as
theorem φDraw_mono : MonoS φDraw := fun as Q Q' E E' h _ ⟨n, e, h1, h2, q⟩ => ⟨n, e, h1, h2, fun i hi => h _ _ (q i hi)⟩
/-- what making a pot promises -/
def φMake : Spc := fun as Q _ => ∃ ns : List Int, as = [.scr ns] ∧ ns.length ≤ 63 ∧ Q .pot as
theorem φMake_mono : MonoS φMake := fun as Q Q' E E' h _ ⟨n, e, h1, q⟩ => ⟨n, e, h1, h _ _ q⟩
section
variable {G : Wd} {T : Xd} {H : Hp} {vs : List V} {Q : VK} {E : XK}
/-- at a draw's entry; then at its end -/
theorem draw_in (h : spOf G T φDraw vs H Q E) : ∃ (n : Nat) (v : V) (f : List Addr), vs = [v, .int n] ∧ 0 < n ∧ n < 1073741824 ∧ G.pt H f v ∧ ∀ (i : Nat) (H' : Hp), i < n → (∀ a o, H a = some o → a ∉ f → H' a = some o) → (∀ a, H a ≠ none → H' a ≠ none) → G.pt H' f v → Q (.int i) H' := by
  obtain ⟨Ev, Fc, as, la, sh, S0, n, rfl, h1, h2, q⟩ := h
  match vs, la with
  | [v, x], _ =>
    obtain ⟨v0, e0, p0⟩ := S0.slot (i := 0) (s := .pot true) (r := .pot) rfl rfl
    cases e0
    obtain ⟨x0, e1, p1⟩ := S0.slot (i := 1) (s := .sh (.int n)) (r := .sh (.int n)) rfl rfl
    cases e1
    have hx := p1.2
    unfold Has at hx
    subst hx
    refine ⟨n, v, Fc 0, rfl, h1, h2, p0, fun i H' hi hk hd hp => ?_⟩
    obtain ⟨S1, fr⟩ := S0.potS (i := 0) (b := true) (v := v) rfl rfl hk hd hp
    refine q i hi (.int i) H' [] ⟨S1.orNil, ⟨rfl, by unfold Has; rfl⟩, fun a h => (by cases h), trivial, rfl, trivial⟩
theorem make_in (h : spOf G T φMake vs H Q E) : ∃ (ns : List Int) (a : Addr), vs = [.ref a] ∧ ns.length ≤ 63 ∧ SqL G.K H a (ns.map V.int) ∧ ∀ (v : V) (H' : Hp) (f : List Addr), (∀ a o, H a = some o → H' a = some o) → (∀ a ∈ f, H a = none) → G.pt H' f v → Q v H' := by
  obtain ⟨Ev, Fc, as, la, sh, S0, ns, rfl, h1, q⟩ := h
  match vs, la with
  | [x], _ =>
    obtain ⟨x0, e1, p1⟩ := S0.slot (i := 0) (s := .scr ns) (r := .scr ns) rfl rfl
    cases e1
    obtain ⟨a, rfl, hs⟩ := p1.2.sq
    refine ⟨ns, a, rfl, h1, hs, fun v H' f hk hf hp => ?_⟩
    have S1 := S0.ext (f := f) hk hf (G.tr hp)
    exact q v H' f ⟨S1, hp, hf, rfl, trivial⟩
end

/-! ### the script, cut -/
def scrE (i : Nat) (w : WE) : WE := fun ρ xq Q => ∃ ns, ρ[i]? = some (.scr ns) ∧ w ρ xq fun r ρ' => ∃ k, r = .sh (.int k) ∧ Q (.ol (cutD (ns.map .int) none (some k))) ρ'
theorem scrE_mono {i : Nat} {w : WE} (m : MonoE w) : MonoE (scrE i w) := fun ρ xq Q Q' h ⟨ns, e, q⟩ => ⟨ns, e, m _ _ _ _ (fun r ρ' ⟨k, e, q⟩ => ⟨k, e, h _ _ q⟩) q⟩
section
variable {G : Wd} {T : Xd} {Wx : WX} {X : Cx} {k : Nat}
theorem eScr (i : Nat) {x : Str} {e : Expr} {px p2 pos : Pos} {w : WE} (pl : Plc G k Wx X) (h : Ee G T Wx X e w) (hN : X.N[i]? = some x := by rfl) (hv : Vis X.env.scope x := by first | exact Or.inl rfl | exact Or.inr (Or.inl rfl) | exact Or.inr (Or.inr rfl)) (hd : (x == ("__debug__" : Str)) = false := by decide) (hc : (x == ("__classdict__" : Str)) = false := by decide) :
    Ee G T Wx X (.Subscript (.Name x px) (.Slice none (some e) none p2) pos) (scrE i w) := by
  refine ⟨scrE_mono h.m, ⟨fun pins s σ H Q I h' => ?_⟩⟩
  obtain ⟨Ha, E, Fa, ρ, F, xq, S, xp, ns, e0, q⟩ := h'
  refine (pe_slice sl_list (pe_var hN hv hd hc) po_none (po_some h.p)).run pins s σ H Q I ?_
  obtain ⟨v, ev, o⟩ := S.slot e0 rfl
  refine ⟨v, ev, ?_⟩
  refine tE.mk h.m S xp q fun r ρ1 v1 H1 F1 f1 q1 r1 => ?_
  obtain ⟨j, rfl, q1⟩ := q1
  obtain ⟨S1, fr, hj⟩ := r1.bare
  unfold Has at hj
  refine ⟨j, hj, ?_⟩
  obtain ⟨a, rfl, hs⟩ := (o.2.mv (fr.mv E)).sq
  refine ⟨a, _, rfl, by rw [pl.K]; exact hs, fun p hp => ?_⟩
  have RA : RsA G Ha E Fa σ H F [] ρ1 [] H1 F1 [] := ⟨S1.orNil, fr, .nil, fun a h => (by cases h), fun a h => (by cases h)⟩
  have hl : HasL G.K (Vo (orF E []) F1) H1 (ns.map .int) (ns.map .int) := .ints ns
  refine q1 (.ref p) _ F1 [p] (New.rs RA (.lst (fun a => RA.st.vo) hp ?_ (hl.cut none (some j))))
  have z : (ns.map V.int).length ≤ sizeLine := by
    obtain ⟨its, r, _, z⟩ := I.list (show SqL X.K H a (ns.map V.int) from by
      obtain ⟨b, eb, hb⟩ := o.2.sq
      cases eb
      rw [pl.K]
      exact hb)
    exact z
  refine Nat.le_trans cutD_len ?_
  rw [List.length_map] at z ⊢
  exact z
end
/-- a stock as a display -/
def stkE (w1 w2 w3 w4 : WE) : WE := fun ρ xq Q => w1 ρ xq fun r1 ρ1 => w2 ρ1 xq fun r2 ρ2 => w3 ρ2 xq fun r3 ρ3 => w4 ρ3 xq fun r4 ρ4 => ∃ (ns ms : List Int) (S j : Int), r1 = .ol (ns.map .int) ∧ r2 = .ol (ms.map .int) ∧ r3 = .sh (.int S) ∧ r4 = .sh (.int j) ∧ ms ≠ [] ∧ ns.length ≤ 64 ∧ Q .pot ρ4
theorem ints_of {K : PySem.W.Frag} {W : Av} {H : Hp} : ∀ {ns : List Int} {xs : List V}, HasL K W H (ns.map .int) xs → xs = ns.map V.int
  | [], xs, h => by unfold List.map HasL at h; exact h
  | n :: ns, xs, h => by
    rw [List.map_cons] at h
    unfold HasL at h
    obtain ⟨x, r, rfl, hx, hr⟩ := h
    unfold Has at hx
    rw [hx, ints_of hr]
    rfl
section
variable {K : PySem.W.Frag} {T : Xd} {Wx : WX} {X : Cx} {k : Nat} {a b c d : Expr} {pos : Pos} {w1 w2 w3 w4 : WE}
theorem eStk (h1 : Ee (Gs K) T Wx X a w1) (h2 : Ee (Gs K) T Wx X b w2) (h3 : Ee (Gs K) T Wx X c w3) (h4 : Ee (Gs K) T Wx X d w4) (s1 : starEach [a, b, c, d] X.env = (false, eval a X.env) :: starEach [b, c, d] X.env := by rfl) (s2 : starEach [b, c, d] X.env = (false, eval b X.env) :: starEach [c, d] X.env := by rfl)
    (s3 : starEach [c, d] X.env = (false, eval c X.env) :: starEach [d] X.env := by rfl) (s4 : starEach [d] X.env = (false, eval d X.env) :: starEach [] X.env := by rfl) : Ee (Gs K) T Wx X (.List [a, b, c, d] pos) (stkE w1 w2 w3 w4) := by
  refine ⟨fun ρ xq Q Q' h q => h1.m _ _ _ _ (fun r1 ρ1 q => h2.m _ _ _ _ (fun r2 ρ2 q => h3.m _ _ _ _ (fun r3 ρ3 q => h4.m _ _ _ _ (fun r4 ρ4 ⟨ns, ms, S, j, e1, e2, e3, e4, e5, e6, q⟩ => ⟨ns, ms, S, j, e1, e2, e3, e4, e5, e6, h _ _ q⟩) q) q) q) q, ⟨fun pins s σ H Q I h' => ?_⟩⟩
  obtain ⟨Ha, E, Fa, ρ, F, xq, S, xp, q⟩ := h'
  refine (pe_lst (pa_cons h1.p (pa_cons h2.p (pa_cons h3.p (pa_cons h4.p pa_nil s4) s3) s2) s1)).run pins s σ H Q I ?_
  refine tE.mk h1.m S xp q fun r1 ρ1 v1 H1 F1 f1 q q1 => ?_
  have xp1 := (xp.step q1.fr).more (E' := orF E f1) fun a h => .inl h
  refine tE.mk h2.m q1.st xp1 q fun r2 ρ2 v2 H2 F2 f2 q q2 => ?_
  have xp2 := (xp1.step q2.fr).more (E' := orF (orF E f1) f2) fun a h => .inl h
  refine tE.mk h3.m q2.st xp2 q fun r3 ρ3 v3 H3 F3 f3 q q3 => ?_
  have xp3 := (xp2.step q3.fr).more (E' := orF (orF (orF E f1) f2) f3) fun a h => .inl h
  refine tE.mk h4.m q3.st xp3 q fun r4 ρ4 v4 H4 F4 f4 q q4 => ?_
  obtain ⟨ns, ms, Sm, j, rfl, rfl, rfl, rfl, hm, hn, q⟩ := q
  obtain ⟨z1, b1, xs1, rfl, rfl, g1, l1⟩ := q1.ow'
  obtain ⟨z2, b2, xs2, rfl, rfl, g2, l2⟩ := q2.ow'
  have e1 := ints_of l1
  have e2 := ints_of l2
  subst e1 e2
  have v3' := q3.bare.2.2
  have v4' := q4.bare.2.2
  unfold Has at v3' v4'
  subst v3' v4'
  refine ⟨(by show 4 ≤ sizeLine; decide), fun p hp => ?_⟩
  have k2 : H2 b1 = some (.lst (ns.map V.int)) := q2.fr.keep _ _ g1 fun z => q1.st.ex _ z (.inr (by simp))
  have k3 : H4 b1 = some (.lst (ns.map V.int)) := q4.fr.keep _ _ (q3.fr.keep _ _ k2 fun z => q2.st.ex _ z (.inl (.inr (by simp)))) fun z => q3.st.ex _ z (.inl (.inl (.inr (by simp))))
  have k4 : H4 b2 = some (.lst (ms.map V.int)) := q4.fr.keep _ _ (q3.fr.keep _ _ g2 fun z => q2.st.ex _ z (.inr (by simp))) fun z => q3.st.ex _ z (.inl (.inr (by simp)))
  have n12 : b1 ≠ b2 := fun e => q2.nE q1.st b2 (by simp) (.inr (by rw [e]; simp))
  have np1 : p ≠ b1 := (ne_of_none k3 hp).symm
  have np2 : p ≠ b2 := (ne_of_none k4 hp).symm
  have kp : ∀ x o, H4 x = some o → upd H4 p (.lst [.ref b1, .ref b2, .int Sm, .int j]) x = some o := fun x o e => by rw [upd_ne (ne_of_none e hp)]; exact e
  have frA : Fr H F H4 F4 := ((q1.fr.trans q2.fr).trans q3.fr).trans q4.fr
  have S4 : St (Gs K) Ha (orF (orF E [b1]) [b2]) Fa σ H4 ρ4 F4 := q4.st.less fun a h => .inl (.inl h)
  have S5 := S4.ext (f := [p]) (H' := upd H4 p (.lst [.ref b1, .ref b2, .int Sm, .int j])) kp (fun a h => by rw [List.mem_singleton.mp h]; exact hp) (fun a h => by rw [List.mem_singleton.mp h, upd_same]; simp)
  refine q (.ref p) _ F4 [p, b1, b2] ⟨S5.less fun x h => ?_, frA.trans ⟨fun x o h _ => kp x o h, fun x h => ?_, fun x h => .inl h⟩, ⟨p, b1, b2, ns, ms, Sm, j, rfl, rfl, np1, np2, n12, upd_same, kp _ _ k3, kp _ _ k4, hm, hn⟩, fun x h => ?_, fun x h => ?_⟩
  · rcases h with h | h
    · exact .inl (.inl (.inl h))
    · have z : x = p ∨ x = b1 ∨ x = b2 := by simpa using h
      rcases z with rfl | rfl | rfl
      · exact .inr (by simp)
      · exact .inl (.inl (.inr (by simp)))
      · exact .inl (.inr (by simp))
  · cases w : H4 x with
    | none => exact absurd w h
    | some o => rw [kp x o w]; simp
  · have z : x = p ∨ x = b1 ∨ x = b2 := by simpa using h
    rcases z with rfl | rfl | rfl
    · cases w : Ha x with
      | none => rfl
      | some o => exact absurd hp (S4.fr.dom x (by rw [w]; simp))
    · exact q1.na _ (by simp)
    · exact q2.na _ (by simp)
  · have z : x = p ∨ x = b1 ∨ x = b2 := by simpa using h
    rcases z with rfl | rfl | rfl
    · exact .inr (frA.none hp)
    · exact q1.nw _ (by simp)
    · rcases q2.nw _ (List.mem_singleton.mpr rfl) with z | z
      · exact q1.fr.new _ z
      · exact .inr (q1.fr.none z)
end
/-! ### facts for the draw -/
theorem plix {b : Expr} (h : ∀ o i, subscripted b false o i = operate [o, i] (getItem o i) := by intro _ _; rfl) : PlainIx b := h
theorem plain_ints (ns : List Int) : (PyData.list (ns.map .int)).plain = true := by
  show PyData.plainAll _ = true
  induction ns with
  | nil => rfl
  | cons n ns ih => simp [PyData.plainAll, PyData.plain] ; exact ih
theorem New.bool' {G : Wd} {W : Av} {H H' : Hp} {k : Bool} {v : V} {f : List Addr} (h : New G W H (.sh (.bool k)) v H' f) : v = .bl k ∧ ∀ a o, H a = some o → H' a = some o := by
  have o := h.ow.2
  unfold Has at o
  exact ⟨o, h.keep⟩
theorem len_pos {α : Type} {l : List α} (h : l ≠ []) : 0 < l.length := by
  cases l with
  | nil => exact absurd rfl h
  | cons a l => exact Nat.succ_pos _
theorem rem_nat {n : Nat} (h : 0 < n) (x : Int) : ∃ i : Nat, i < n ∧ x % (n : Int) = i := by
  have h1 : 0 ≤ x % (n : Int) := Int.emod_nonneg _ (by omega)
  have h2 : x % (n : Int) < n := Int.emod_lt_of_pos _ (by omega)
  exact ⟨(x % (n : Int)).toNat, by omega, by omega⟩
theorem rem_case {n : Nat} (h : 0 < n) {Q : VK} {H : Hp} (k : ∀ i : Nat, i < n → Q (V.int i) H) (y : Int) : Q (V.int (y % (n : Int))) H := by
  obtain ⟨i, hi, e⟩ := rem_nat h y
  rw [e]
  exact k i hi
theorem mod64 (e : Int) : -(2 ^ 64) < e % 4294967291 ∧ e % 4294967291 < 2 ^ 64 := by
  have h0 := Int.emod_nonneg e (show (4294967291 : Int) ≠ 0 by decide)
  have h1 := Int.emod_lt_of_pos e (show (0 : Int) < 4294967291 by decide)
  exact ⟨by omega, by omega⟩
theorem pick_int {ms : List Int} (h : ms ≠ []) (t : Int) : ∃ m, atI (ms.map V.int) (t % ((ms.map V.int).length : Int)) = some (V.int m) := by
  have l : 0 < ms.length := len_pos h
  have h1 : 0 ≤ t % (ms.length : Int) := Int.emod_nonneg _ (by omega)
  have h2 : t % (ms.length : Int) < ms.length := Int.emod_lt_of_pos _ (by omega)
  refine ⟨ms[(t % (ms.length : Int)).toNat]'(by omega), ?_⟩
  unfold atI ixN
  rw [List.length_map, if_pos h1, if_pos h2]
  show (ms.map V.int)[(t % (ms.length : Int)).toNat]? = _
  rw [List.getElem?_map, List.getElem?_eq_getElem (by omega)]
  rfl
theorem eqv_nil {l : List PyData} (h : l ≠ []) : (PyData.list l).eqv (PyData.list []) = false := by
  cases l with
  | nil => exact absurd rfl h
  | cons a l => rfl
end Pd

/-! Pd20: what promises' proofs need: turns, places, texts. -/
namespace Pd
open PySem L2 PyProof.Rows

/-! ### comprehensions whose turns are known -/
theorem comp_go {us : List (Nat × List PyData)} {vs : List Nat} {tg : WTg} {c : WT} {w : WE} {ds : List PyData} {ρ' : List Sl} {Q : List PyData → List Sl → Prop} (g : PyData → Option PyData) (hv : vwsOk us (wipeS ρ' vs))
    (h : ∀ d ∈ ds, ∀ K : Option PyData → List Sl → Prop, K (g d) (wipeS ρ' vs) → turnC vs tg c w d (wipeS ρ' vs) K) (q : Q (ds.filterMap g) (keepS ρ' (wipeS ρ' vs) vs)) :
    CompI us vs tg c w ds ρ' Q := by
  refine ⟨fun rest acc ρ => ρ = wipeS ρ' vs ∧ ∃ pre, ds = pre ++ rest ∧ acc = pre.filterMap g, ⟨rfl, [], rfl, rfl⟩, ?_, ?_, ?_⟩
  · rintro _ _ _ ⟨rfl, _⟩
    exact hv
  · rintro acc ρ2 ⟨rfl, pre, e1, rfl⟩
    rw [List.append_nil] at e1
    subst e1
    exact q
  · rintro d rest acc ρ ⟨rfl, pre, e1, rfl⟩
    refine h d (by rw [e1]; simp) _ ⟨rfl, pre ++ [d], by rw [e1]; simp, ?_⟩
    rw [List.filterMap_append]
    cases q2 : g d <;> simp [q2]
/-- .. whose turns yield something that is so -/
theorem comp_all {us : List (Nat × List PyData)} {vs : List Nat} {tg : WTg} {c : WT} {w : WE} {ds : List PyData} {ρ' : List Sl} {Q : List PyData → List Sl → Prop} (P : PyData → Prop) (hv : vwsOk us (wipeS ρ' vs))
    (h : ∀ d ∈ ds, ∀ K : Option PyData → List Sl → Prop, (∀ y, P y → K (some y) (wipeS ρ' vs)) → turnC vs tg c w d (wipeS ρ' vs) K) (q : ∀ acc : List PyData, acc.length = ds.length → (∀ y ∈ acc, P y) → Q acc (keepS ρ' (wipeS ρ' vs) vs)) :
    CompI us vs tg c w ds ρ' Q := by
  refine ⟨fun rest acc ρ => ρ = wipeS ρ' vs ∧ ∃ pre, ds = pre ++ rest ∧ acc.length = pre.length ∧ ∀ y ∈ acc, P y, ⟨rfl, [], rfl, rfl, fun y hy => nomatch hy⟩, ?_, ?_, ?_⟩
  · rintro _ _ _ ⟨rfl, _⟩
    exact hv
  · rintro acc ρ2 ⟨rfl, pre, e1, e2, e3⟩
    rw [List.append_nil] at e1
    exact q acc (by rw [e1]; exact e2) e3
  · rintro d rest acc ρ ⟨rfl, pre, e1, e2, e3⟩
    refine h d (by rw [e1]; simp) _ fun y hy => ⟨rfl, pre ++ [d], by rw [e1]; simp, by simp [e2], fun z hz => ?_⟩
    rcases List.mem_append.mp hz with hz | hz
    · exact e3 z hz
    · rw [show z = y by simpa using hz]
      exact hy
/-! ### places -/
theorem atI_nat {α : Type} {l : List α} {i : Nat} (h : i < l.length) : atI l (i : Int) = some l[i] := by
  unfold atI ixN
  rw [if_pos (by omega), if_pos (by omega)]
  show l[((i : Nat) : Int).toNat]? = _
  rw [Int.toNat_natCast, List.getElem?_eq_getElem h]
theorem atI_get {α : Type} {l : List α} {i : Nat} {d : α} (h : l[i]? = some d) : atI l (i : Int) = some d := by
  rw [atI_nat (lt_of_get h)]
  rw [List.getElem?_eq_getElem (lt_of_get h)] at h
  exact h
theorem filterMap_some {α β : Type} (f : α → β) : ∀ l : List α, l.filterMap (fun a => some (f a)) = l.map f
  | [] => rfl
  | a :: l => by rw [List.filterMap_cons, filterMap_some f l]; rfl
/-! ### texts of data -/
structure Nice (d : PyData) (D W : Nat) : Prop where
  pl : d.plain = true
  sh : d.showable = true
  lv : d.leavesShort 13 = true
  dp : d.depth ≤ D
  wt : d.weight ≤ W
structure NiceA (l : List PyData) (D W : Nat) : Prop where
  pl : PyData.plainAll l = true
  sh : PyData.showableAll l = true
  lv : PyData.leavesShortAll 13 l = true
  dp : PyData.depthAll l ≤ D
  wt : PyData.weightAll l ≤ W
theorem Nice.le {d : PyData} {D W D' W' : Nat} (h : Nice d D W) (h1 : D ≤ D') (h2 : W ≤ W') : Nice d D' W' := ⟨h.pl, h.sh, h.lv, Nat.le_trans h.dp h1, Nat.le_trans h.wt h2⟩
theorem Nice.int {i : Int} (h1 : -1000000000000 < i) (h2 : i < 1000000000000) : Nice (.int i) 0 41 := by
  have hn : i.natAbs < 10 ^ 12 := by omega
  refine ⟨rfl, ?_, ?_, Nat.le_refl _, ?_⟩
  · show decide (i.natAbs.log2 < 1920) = true
    refine decide_eq_true ?_
    by_cases z : i.natAbs = 0
    · rw [z]; decide
    · exact Nat.lt_of_lt_of_le ((Nat.log2_lt z).mpr (Nat.lt_of_lt_of_le hn (by decide : 10 ^ 12 ≤ 2 ^ 40))) (by decide)
  · show decide _ = true
    exact decide_eq_true (PyData.shown_int_le hn)
  · show (if i == 0 then 0 else i.natAbs.log2 + 1) ≤ 41
    split
    · exact Nat.zero_le _
    · rename_i z
      have z : i.natAbs ≠ 0 := fun q => z (by simpa using Int.natAbs_eq_zero.mp q)
      have := (Nat.log2_lt z).mpr (Nat.lt_of_lt_of_le hn (by decide : 10 ^ 12 ≤ 2 ^ 40))
      omega
theorem NiceA.nil : NiceA [] 0 0 := ⟨rfl, rfl, rfl, Nat.le_refl _, Nat.le_refl _⟩
theorem NiceA.cons {d : PyData} {l : List PyData} {D W W' : Nat} (h : Nice d D W) (h2 : NiceA l D W') : NiceA (d :: l) D (W + 1 + W') := by
  refine ⟨?_, ?_, ?_, ?_, ?_⟩
  · show (_ && _) = true
    rw [h.pl, h2.pl]; rfl
  · show (_ && _) = true
    rw [h.sh, h2.sh]; rfl
  · show (_ && _) = true
    rw [h.lv, h2.lv]; rfl
  · show max _ _ ≤ D
    exact Nat.max_le.mpr ⟨h.dp, h2.dp⟩
  · show _ + 1 + _ ≤ _
    have := h.wt
    have := h2.wt
    omega
theorem NiceA.all {D W : Nat} : ∀ {l : List PyData}, (∀ d ∈ l, Nice d D W) → NiceA l D (l.length * (W + 1))
  | [], _ => ⟨rfl, rfl, rfl, Nat.zero_le _, Nat.zero_le _⟩
  | d :: l, h => by
    have q := NiceA.cons (h d (by simp)) (NiceA.all (l := l) fun x hx => h x (List.mem_cons_of_mem _ hx))
    refine ⟨q.pl, q.sh, q.lv, q.dp, Nat.le_trans q.wt ?_⟩
    rw [List.length_cons, Nat.succ_mul]
    omega
theorem Nice.lst {l : List PyData} {D W : Nat} (h : NiceA l D W) : Nice (.list l) (D + 1) W := by
  refine ⟨h.pl, h.sh, h.lv, ?_, h.wt⟩
  · show _ + 1 ≤ _
    exact Nat.succ_le_succ h.dp
theorem Nice.tup {l : List PyData} {D W : Nat} (h : NiceA l D W) : Nice (.tuple l) (D + 1) W := by
  refine ⟨h.pl, h.sh, h.lv, ?_, h.wt⟩
  · show _ + 1 ≤ _
    exact Nat.succ_le_succ h.dp
theorem Nice.rp {d : PyData} {D W : Nat} {Q : R → Prop} (h : Nice d D W) (hD : D ≤ 100) (hW : W ≤ 2 ^ 20) (q : Q (.sh (.str d.shown))) : pRepr [d] Q :=
  ⟨d, rfl, h.pl, h.sh, Nat.le_trans h.dp hD, PyData.shown_fits (by decide) (by decide) h.lv (Nat.le_trans h.wt hW), q⟩
theorem str_eqv {x : Str} : PyData.eqv (.str x) (.str x) = true := by
  show (x == x) = true
  exact beq_self_eq_true x

/-- .. whose turns yield nothing, or something that is so -/
theorem comp_le {us : List (Nat × List PyData)} {vs : List Nat} {tg : WTg} {c : WT} {w : WE} {ds : List PyData} {ρ' : List Sl} {Q : List PyData → List Sl → Prop} (P : PyData → Prop) (hv : vwsOk us (wipeS ρ' vs))
    (h : ∀ d ∈ ds, ∀ K : Option PyData → List Sl → Prop, K none (wipeS ρ' vs) → (∀ y, P y → K (some y) (wipeS ρ' vs)) → turnC vs tg c w d (wipeS ρ' vs) K) (q : ∀ acc : List PyData, acc.length ≤ ds.length → (∀ y ∈ acc, P y) → Q acc (keepS ρ' (wipeS ρ' vs) vs)) :
    CompI us vs tg c w ds ρ' Q := by
  refine ⟨fun rest acc ρ => ρ = wipeS ρ' vs ∧ ∃ pre, ds = pre ++ rest ∧ acc.length ≤ pre.length ∧ ∀ y ∈ acc, P y, ⟨rfl, [], rfl, Nat.le_refl _, fun y hy => nomatch hy⟩, ?_, ?_, ?_⟩
  · rintro _ _ _ ⟨rfl, _⟩
    exact hv
  · rintro acc ρ2 ⟨rfl, pre, e1, e2, e3⟩
    rw [List.append_nil] at e1
    exact q acc (by rw [e1]; exact e2) e3
  · rintro d rest acc ρ ⟨rfl, pre, e1, e2, e3⟩
    refine h d (by rw [e1]; simp) _ ⟨rfl, pre ++ [d], by rw [e1]; simp, by simp; omega, fun z hz => e3 z (by simpa using hz)⟩ fun y hy => ⟨rfl, pre ++ [d], by rw [e1]; simp, by simp; omega, fun z hz => ?_⟩
    rcases List.mem_append.mp hz with hz | hz
    · exact e3 z hz
    · rw [show z = y by simpa using hz]
      exact hy
/-! ### ints -/
section
variable {i j : Int} {Q : R → Prop}
theorem pEq_int (h : Q (.sh (.bool (decide (i = j))))) : pEq [.int i, .int j] Q := ⟨_, _, rfl, rfl, rfl, Nat.zero_le _, by
  rw [show PyData.eqv (.int i) (.int j) = decide (i = j) from rfl]
  exact h⟩
theorem pNe_int (h : Q (.sh (.bool (!decide (i = j))))) : pNe [.int i, .int j] Q := ⟨_, _, rfl, rfl, rfl, Nat.zero_le _, by
  rw [show PyData.eqv (.int i) (.int j) = decide (i = j) from rfl]
  exact h⟩
theorem pLt_int (h : Q (.sh (.bool (decide (i < j))))) : pLt [.int i, .int j] Q := ⟨_, _, rfl, rfl, rfl, rfl, nofun, Nat.zero_le _, by
  rw [PySem.W.dataLt_int]
  exact h⟩
theorem pGt_int (h : Q (.sh (.bool (decide (j < i))))) : pGt [.int i, .int j] Q := ⟨_, _, rfl, rfl, rfl, rfl, nofun, Nat.zero_le _, by
  rw [PySem.W.dataLt_int]
  exact h⟩
theorem not_lt_int : (!decide (i < j)) = decide (j ≤ i) := by
  by_cases h : i < j
  · rw [decide_eq_true h, decide_eq_false (by omega)]; rfl
  · rw [decide_eq_false h, decide_eq_true (by omega)]; rfl
theorem pGe_int (h : Q (.sh (.bool (decide (j ≤ i))))) : pGe [.int i, .int j] Q := ⟨_, _, rfl, rfl, rfl, rfl, nofun, Nat.zero_le _, by
  rw [PySem.W.dataLt_int, not_lt_int]
  exact h⟩
theorem pLe_int (h : Q (.sh (.bool (decide (i ≤ j))))) : pLe [.int i, .int j] Q := ⟨_, _, rfl, rfl, rfl, rfl, nofun, Nat.zero_le _, by
  rw [PySem.W.dataLt_int, not_lt_int]
  exact h⟩
theorem pEq_str {x y : Str} (h : Q (.sh (.bool (x == y)))) : pEq [.str x, .str y] Q := ⟨_, _, rfl, rfl, rfl, Nat.zero_le _, h⟩
theorem pNe_str {x y : Str} (h : Q (.sh (.bool (!(x == y))))) : pNe [.str x, .str y] Q := ⟨_, _, rfl, rfl, rfl, Nat.zero_le _, h⟩
end
theorem iteB {p : Prop} [Decidable p] {A B : Prop} (h1 : p → A) (h2 : ¬ p → B) : if decide p = true then A else B := by
  by_cases h : p
  · rw [if_pos (decide_eq_true h)]; exact h1 h
  · rw [if_neg (by rw [decide_eq_false h]; decide)]; exact h2 h
theorem iteb {b : Bool} {A B : Prop} (h1 : b = true → A) (h2 : b = false → B) : if b = true then A else B := by
  cases b with
  | true => exact h1 rfl
  | false => exact h2 rfl
/-- ints all -/
theorem all_ints : ∀ {l : List PyData}, (∀ y ∈ l, ∃ c, y = .int c) → ∃ ms : List Int, l = ms.map .int
  | [], _ => ⟨[], rfl⟩
  | d :: l, h => by
    obtain ⟨c, rfl⟩ := h d (by simp)
    obtain ⟨ms, e⟩ := all_ints (l := l) fun y hy => h y (List.mem_cons_of_mem _ hy)
    exact ⟨c :: ms, by rw [e]; rfl⟩
theorem cutD_map {α : Type} {f : α → PyData} {l : List α} {a b : Option Int} : ∃ l' : List α, cutD (l.map f) a b = l'.map f ∧ l'.length ≤ l.length ∧ ∀ x ∈ l', x ∈ l := by
  refine ⟨(l.drop (HT.sIx (l.map f).length 0 a)).take (HT.sIx (l.map f).length (l.map f).length b - HT.sIx (l.map f).length 0 a), ?_, ?_, fun x hx => List.mem_of_mem_drop (List.mem_of_mem_take hx)⟩
  · unfold cutD
    rw [← List.map_drop, ← List.map_take]
  · rw [List.length_take, List.length_drop]
    omega
theorem ol_one {ms : List Int} {x : Int} : R.ol (ms.map .int ++ [.int x]) = R.ol ((ms ++ [x]).map .int) := by
  rw [List.map_append]
  rfl
theorem pEq_strT {x : Str} {Q : R → Prop} (h : Q (.sh (.bool true))) : pEq [.str x, .str x] Q := pEq_str (by
  rw [beq_self_eq_true]
  exact h)
theorem comp_goE {us : List (Nat × List PyData)} {vs : List Nat} {tg : WTg} {c : WT} {w : WE} {ds : List PyData} {ρ' : List Sl} {Q : List PyData → List Sl → Prop} (g : PyData → Option PyData) {res : List PyData} (e : ds.filterMap g = res) (hv : vwsOk us (wipeS ρ' vs))
    (h : ∀ d ∈ ds, ∀ K : Option PyData → List Sl → Prop, K (g d) (wipeS ρ' vs) → turnC vs tg c w d (wipeS ρ' vs) K) (q : Q res (keepS ρ' (wipeS ρ' vs) vs)) : CompI us vs tg c w ds ρ' Q :=
  comp_go g hv h (by rw [e]; exact q)
end Pd

/-! Pd21: skeletons as data. -/
namespace Pd
open PySem L2 PyProof.Rows

inductive It where
  | jump (g : Nat) (b l : Int)
  | fill (n : Int)
  | label
def dIt : It → PyData
  | .jump g b l => .tuple [.str "jump", .int g, .int b, .int l]
  | .fill n => .tuple [.str "fill", .int n]
  | .label => .tuple [.str "label"]
abbrev Sk := List It
def dSk (sk : Sk) : PyData := .tuple (sk.map dIt)
def dInts (ns : List Nat) : List PyData := ns.map fun (n : Nat) => .int n
theorem dSk_at {sk : Sk} {i : Nat} {it : It} (h : sk[i]? = some it) : atI (sk.map dIt) (i : Int) = some (dIt it) :=
  atI_get (by rw [List.getElem?_map, h]; rfl)
/-- bounds of a drawn skeleton -/
def ItOk (n : Nat) : It → Prop
  | .jump g b l => g < n ∧ 1 ≤ b ∧ b ≤ 998 ∧ b < l ∧ l ≤ 999
  | .fill m => m = 2 ∨ m = 4 ∨ m = 8 ∨ m = 16 ∨ m = 32 ∨ m = 64
  | .label => True
/-- goals are labels -/
def GoalOk (sk : List It) : Prop := ∀ (j g : Nat) (b l : Int), sk[j]? = some (It.jump g b l) → sk[g]? = some It.label
def SkOk (sk : Sk) : Prop := sk.length ≤ 24 ∧ (∀ it ∈ sk, ItOk sk.length it) ∧ GoalOk sk
def wordOf : It → PyData
  | .jump _ _ _ => .str "jump"
  | .fill _ => .str "fill"
  | .label => .str "label"
theorem dIt_nice {n : Nat} {it : It} (h : ItOk n it) (hn : n ≤ 1000) : Nice (dIt it) 1 200 := by
  have hj : Nice (.str ("jump" : Str)) 0 4 := ⟨rfl, rfl, rfl, Nat.le_refl _, Nat.le_refl _⟩
  have hf : Nice (.str ("fill" : Str)) 0 4 := ⟨rfl, rfl, rfl, Nat.le_refl _, Nat.le_refl _⟩
  have hl : Nice (.str ("label" : Str)) 0 5 := ⟨rfl, rfl, rfl, Nat.le_refl _, Nat.le_refl _⟩
  have nil : NiceA [] 0 0 := NiceA.nil
  cases it with
  | jump g b l =>
    obtain ⟨h1, h2, h3, h4, h5⟩ := h
    exact (Nice.tup (.cons hj (.cons (.int (by omega) (by omega)) (.cons (.int (by omega) (by omega)) (.cons (.int (by omega) (by omega)) nil))))).le (Nat.le_refl _) (by omega)
  | fill m =>
    have h : m = 2 ∨ m = 4 ∨ m = 8 ∨ m = 16 ∨ m = 32 ∨ m = 64 := h
    exact (Nice.tup (.cons hf (.cons (.int (by omega) (by omega)) nil))).le (Nat.le_refl _) (by omega)
  | label => exact (Nice.tup (.cons hl nil)).le (Nat.le_refl _) (by omega)
theorem dSk_nice {sk : Sk} (h : SkOk sk) : Nice (dSk sk) 2 10000 := by
  have q := Nice.tup (NiceA.all (l := sk.map dIt) (D := 1) (W := 200) fun d hd => by
    obtain ⟨it, hi, rfl⟩ := List.mem_map.mp hd
    exact dIt_nice (h.2.1 it hi) (by have := h.1; omega))
  refine q.le (Nat.le_refl _) ?_
  have := h.1
  rw [List.length_map]
  omega
/-! ### words, places of jumps, sides -/
def IsW (y : PyData) : Prop := y = .str "jump" ∨ y = .str "fill" ∨ y = .str "label"
def jumpsOf : Nat → Sk → List Nat
  | _, [] => []
  | k, .jump _ _ _ :: sk => k :: jumpsOf (k + 1) sk
  | k, _ :: sk => jumpsOf (k + 1) sk
theorem jumpsOf_len : ∀ {sk : Sk} {k : Nat}, (jumpsOf k sk).length ≤ sk.length
  | [], _ => Nat.le_refl _
  | .jump _ _ _ :: sk, k => Nat.succ_le_succ (jumpsOf_len (sk := sk) (k := k + 1))
  | .fill _ :: sk, k => Nat.le_succ_of_le (jumpsOf_len (sk := sk) (k := k + 1))
  | .label :: sk, k => Nat.le_succ_of_le (jumpsOf_len (sk := sk) (k := k + 1))
theorem mem_jumps : ∀ {sk : Sk} {k j : Nat}, j ∈ jumpsOf k sk → k ≤ j ∧ ∃ g b l, sk[j - k]? = some (.jump g b l)
  | [], k, j, h => nomatch h
  | .jump g b l :: sk, k, j, h => by
    rcases List.mem_cons.mp h with rfl | h
    · exact ⟨Nat.le_refl _, g, b, l, by rw [Nat.sub_self]; rfl⟩
    · obtain ⟨h1, g', b', l', h2⟩ := mem_jumps h
      refine ⟨by omega, g', b', l', ?_⟩
      rw [show j - k = (j - (k + 1)) + 1 by omega]
      exact h2
  | .fill _ :: sk, k, j, h => by
    obtain ⟨h1, g', b', l', h2⟩ := mem_jumps (sk := sk) (k := k + 1) h
    refine ⟨by omega, g', b', l', ?_⟩
    rw [show j - k = (j - (k + 1)) + 1 by omega]
    exact h2
  | .label :: sk, k, j, h => by
    obtain ⟨h1, g', b', l', h2⟩ := mem_jumps (sk := sk) (k := k + 1) h
    refine ⟨by omega, g', b', l', ?_⟩
    rw [show j - k = (j - (k + 1)) + 1 by omega]
    exact h2
theorem mem_enumD : ∀ {ds : List PyData} {k : Nat} {d : PyData}, d ∈ enumD k ds → ∃ (i : Nat) (x : PyData), d = .tuple [.int (i : Nat), x] ∧ k ≤ i ∧ i < k + ds.length ∧ x ∈ ds
  | [], _, _, h => nomatch h
  | x :: ds, k, d, h => by
    unfold enumD at h
    rcases List.mem_cons.mp h with rfl | h
    · exact ⟨k, x, rfl, Nat.le_refl _, by simp, List.mem_cons_self⟩
    · obtain ⟨i, y, e, h1, h2, h3⟩ := mem_enumD h
      exact ⟨i, y, e, by omega, by rw [List.length_cons]; omega, List.mem_cons_of_mem _ h3⟩
def gJump : PyData → Option PyData
  | .tuple [.int i, .tuple (.str w :: _)] => if (w == ("jump" : Str)) = true then some (.int i) else none
  | _ => none
theorem gJump_jump {i : Int} {g : Nat} {b l : Int} : gJump (.tuple [.int i, dIt (.jump g b l)]) = some (.int i) := rfl
theorem gJump_fill {i n : Int} : gJump (.tuple [.int i, dIt (.fill n)]) = none := rfl
theorem gJump_label {i : Int} : gJump (.tuple [.int i, dIt .label]) = none := rfl
theorem enum_jumps : ∀ (sk : Sk) (k : Nat), (enumD k (sk.map dIt)).filterMap gJump = dInts (jumpsOf k sk)
  | [], _ => rfl
  | .jump g b l :: sk, k => by
    rw [List.map_cons, enumD, List.filterMap_cons, gJump_jump, enum_jumps sk (k + 1)]
    rfl
  | .fill n :: sk, k => by
    rw [List.map_cons, enumD, List.filterMap_cons, gJump_fill, enum_jumps sk (k + 1)]
    rfl
  | .label :: sk, k => by
    rw [List.map_cons, enumD, List.filterMap_cons, gJump_label, enum_jumps sk (k + 1)]
    rfl
def sideOf (j g p : Nat) : Str := if p = j ∨ p = g then "end" else if p < j ∧ p < g then "ahead" else if p > j ∧ p > g then "behind" else "in"
theorem cutD_take {l : List PyData} {k : Nat} : cutD l none (some (k : Int)) = l.take k := by
  unfold cutD HT.sIx
  have h : ¬ ((k : Int) < 0) := by omega
  simp [h]
theorem cutD_mem {l : List PyData} {a b : Option Int} {d : PyData} (h : d ∈ cutD l a b) : d ∈ l := List.mem_of_mem_drop (List.mem_of_mem_take h)
/-- the places of a word -/
def placesOf (x : PyData) : Nat → List PyData → List Nat
  | _, [] => []
  | k, w :: ws => if PyData.eqv w x = true then k :: placesOf x (k + 1) ws else placesOf x (k + 1) ws
def gWord (x : PyData) : PyData → Option PyData
  | .tuple [.int i, w] => if PyData.eqv w x = true then some (.int i) else none
  | _ => none
theorem enum_places {x : PyData} : ∀ (ws : List PyData) (k : Nat), (enumD k ws).filterMap (gWord x) = dInts (placesOf x k ws)
  | [], _ => rfl
  | w :: ws, k => by
    rw [enumD, List.filterMap_cons, placesOf]
    by_cases h : PyData.eqv w x = true
    · rw [show gWord x (.tuple [.int k, w]) = some (.int k) from if_pos h, if_pos h, enum_places ws (k + 1)]
      rfl
    · rw [show gWord x (.tuple [.int k, w]) = none from if_neg h, if_neg h, enum_places ws (k + 1)]
theorem mem_places {x : PyData} : ∀ {ws : List PyData} {k j : Nat}, j ∈ placesOf x k ws ↔ k ≤ j ∧ ∃ w, ws[j - k]? = some w ∧ PyData.eqv w x = true
  | [], k, j => by simp [placesOf]
  | w :: ws, k, j => by
    rw [placesOf]
    have ih := mem_places (x := x) (ws := ws) (k := k + 1) (j := j)
    have st : k + 1 ≤ j → (w :: ws)[j - k]? = ws[j - (k + 1)]? := fun h => by
      rw [show j - k = (j - (k + 1)) + 1 by omega]
      rfl
    by_cases h : PyData.eqv w x = true
    · rw [if_pos h, List.mem_cons, ih]
      constructor
      · rintro (rfl | ⟨h1, h2⟩)
        · exact ⟨Nat.le_refl _, w, by rw [Nat.sub_self]; rfl, h⟩
        · exact ⟨by omega, by rw [st h1]; exact h2⟩
      · rintro ⟨h1, h2⟩
        by_cases e : j = k
        · exact .inl e
        · exact .inr ⟨by omega, by rw [← st (by omega)]; exact h2⟩
    · rw [if_neg h, ih]
      constructor
      · rintro ⟨h1, h2⟩
        exact ⟨by omega, by rw [st h1]; exact h2⟩
      · rintro ⟨h1, h2⟩
        by_cases e : j = k
        · obtain ⟨y, e1, e2⟩ := h2
          rw [e, Nat.sub_self] at e1
          cases e1
          exact absurd e2 h
        · exact ⟨by omega, by rw [← st (by omega)]; exact h2⟩
theorem IsW.str {y : PyData} (h : IsW y) : ∃ x, y = .str x := by
  rcases h with rfl | rfl | rfl <;> exact ⟨_, rfl⟩
theorem ixN_nat {n i : Nat} (h : i < n) : ixN n (i : Int) = some i := by
  unfold ixN
  rw [if_pos (by omega), if_pos (by omega), Int.toNat_natCast]
def gLess (n : Int) : PyData → Option PyData
  | .int i => if decide (i < n) = true then some (.int i) else none
  | _ => none
theorem less_ints (n : Nat) : ∀ gs : List Nat, (dInts gs).filterMap (gLess n) = dInts (gs.filter fun g => decide (g < n))
  | [] => rfl
  | g :: gs => by
    show (PyData.int g :: dInts gs).filterMap (gLess n) = _
    rw [List.filterMap_cons, List.filter_cons]
    by_cases h : g < n
    · rw [show gLess n (.int g) = some (.int g) from if_pos (decide_eq_true (by omega)), less_ints n gs, if_pos (decide_eq_true h)]
      rfl
    · rw [show gLess n (.int g) = none from if_neg (by rw [decide_eq_false (by omega)]; decide), less_ints n gs, if_neg (by rw [decide_eq_false h]; decide)]
theorem mem_enumG : ∀ {ds : List PyData} {k : Nat} {d : PyData}, d ∈ enumD k ds → ∃ (i : Nat) (x : PyData), d = .tuple [.int (i : Nat), x] ∧ k ≤ i ∧ ds[i - k]? = some x
  | [], _, _, h => nomatch h
  | x :: ds, k, d, h => by
    unfold enumD at h
    rcases List.mem_cons.mp h with rfl | h
    · exact ⟨k, x, rfl, Nat.le_refl _, by rw [Nat.sub_self]; rfl⟩
    · obtain ⟨i, y, e, h1, h2⟩ := mem_enumG h
      refine ⟨i, y, e, by omega, ?_⟩
      rw [show i - k = (i - (k + 1)) + 1 by omega]
      exact h2
theorem placesOf_len {x : PyData} : ∀ {ws : List PyData} {k : Nat}, (placesOf x k ws).length ≤ ws.length
  | [], _ => Nat.le_refl _
  | w :: ws, k => by
    rw [placesOf]
    have := placesOf_len (x := x) (ws := ws) (k := k + 1)
    split
    · exact Nat.succ_le_succ this
    · exact Nat.le_succ_of_le this
/-! ### sides -/
theorem rngD0 {n : Nat} : rngD 0 n = dInts (List.range n) := by
  unfold rngD dInts
  refine List.map_congr_left fun i _ => ?_
  rw [Int.zero_add]
theorem rngD_nat {lo n : Nat} : rngD (lo : Int) n = dInts ((List.range n).map (lo + ·)) := by
  unfold rngD dInts
  rw [List.map_map]
  refine List.map_congr_left fun i _ => ?_
  show PyData.int _ = PyData.int _
  rw [Int.natCast_add]
def gSide (j g : Nat) : PyData → Option PyData
  | .int p => some (.str (sideOf j g p.toNat))
  | _ => none
theorem side_ints (j g : Nat) : ∀ ps : List Nat, (dInts ps).filterMap (gSide j g) = ps.map fun p => .str (sideOf j g p)
  | [] => rfl
  | p :: ps => by
    show (PyData.int p :: dInts ps).filterMap (gSide j g) = _
    rw [List.filterMap_cons, show gSide j g (.int p) = some (.str (sideOf j g p)) from rfl, side_ints j g ps]
    rfl
theorem side_in (j g p : Nat) : PyData.eqv (.str (sideOf j g p)) (.str "in") = decide (min j g + 1 ≤ p ∧ p < max j g) := by
  unfold sideOf
  by_cases h1 : p = j ∨ p = g
  · rw [if_pos h1, decide_eq_false (by omega)]
    rfl
  · rw [if_neg h1]
    by_cases h2 : p < j ∧ p < g
    · rw [if_pos h2, decide_eq_false (by omega)]
      rfl
    · rw [if_neg h2]
      by_cases h3 : p > j ∧ p > g
      · rw [if_pos h3, decide_eq_false (by omega)]
        rfl
      · rw [if_neg h3, decide_eq_true (by omega)]
        rfl
theorem side_ahead (j g p : Nat) : PyData.eqv (.str (sideOf j g p)) (.str "ahead") = decide (0 ≤ p ∧ p < min j g) := by
  unfold sideOf
  by_cases h1 : p = j ∨ p = g
  · rw [if_pos h1, decide_eq_false (by omega)]
    rfl
  · rw [if_neg h1]
    by_cases h2 : p < j ∧ p < g
    · rw [if_pos h2, decide_eq_true (by omega)]
      rfl
    · rw [if_neg h2, decide_eq_false (by omega)]
      by_cases h3 : p > j ∧ p > g
      · rw [if_pos h3]
        rfl
      · rw [if_neg h3]
        rfl
theorem places_map {x : PyData} {f : Nat → PyData} : ∀ (n k : Nat), placesOf x k ((List.range' k n).map f) = (List.range' k n).filter fun i => PyData.eqv (f i) x
  | 0, k => rfl
  | n + 1, k => by
    rw [List.range'_succ, List.map_cons, placesOf, List.filter_cons, places_map n (k + 1)]
theorem filter_run {lo hi n : Nat} (h1 : lo ≤ hi) (h2 : hi ≤ n) : (List.range n).filter (fun i => decide (lo ≤ i ∧ i < hi)) = (List.range (hi - lo)).map (lo + ·) := by
  have e : List.range n = List.range' 0 lo ++ (List.range' lo (hi - lo) ++ List.range' hi (n - hi)) := by
    rw [List.range_eq_range']
    have e1 := List.range'_append (s := lo) (m := hi - lo) (n := n - hi) (step := 1)
    have e2 := List.range'_append (s := 0) (m := lo) (n := n - lo) (step := 1)
    rw [show lo + 1 * (hi - lo) = hi by omega, show hi - lo + (n - hi) = n - lo by omega] at e1
    rw [show 0 + 1 * lo = lo by omega, show lo + (n - lo) = n by omega] at e2
    rw [e1, e2]
  rw [e, List.filter_append, List.filter_append]
  rw [List.filter_eq_nil_iff.mpr fun a ha => ?_, List.filter_eq_self.mpr fun a ha => ?_, List.filter_eq_nil_iff.mpr fun a ha => ?_]
  · rw [List.nil_append, List.append_nil, List.range_eq_range', List.map_add_range']
    rfl
  · have := List.mem_range'_1.mp ha
    simp
    omega
  · have := List.mem_range'_1.mp ha
    simp
    omega
  · have := List.mem_range'_1.mp ha
    simp
    omega
/-- what stands in a way, told by sides -/
theorem places_in {j g n : Nat} (hj : j < n) (hg : g < n) : dInts (placesOf (.str "in") 0 ((List.range n).map fun p => .str (sideOf j g p))) = rngD (min j g + 1 : Nat) (max j g - (min j g + 1)) := by
  rw [List.range_eq_range', places_map, ← List.range_eq_range', rngD_nat]
  simp only [side_in]
  by_cases h : min j g + 1 ≤ max j g
  · rw [filter_run h (by omega)]
  · rw [show max j g - (min j g + 1) = 0 by omega, List.filter_eq_nil_iff.mpr fun a _ => by simp; omega]
    rfl
theorem places_ahead {j g n : Nat} (hj : j < n) (hg : g < n) : dInts (placesOf (.str "ahead") 0 ((List.range n).map fun p => .str (sideOf j g p))) = rngD 0 (min j g) := by
  rw [List.range_eq_range', places_map, ← List.range_eq_range', rngD0]
  simp only [side_ahead]
  rw [filter_run (Nat.zero_le _) (by omega)]
  congr 1
  simp
theorem rngD_nice {lo n : Nat} (h : lo + n ≤ 1000) : NiceA (rngD (lo : Int) n) 0 (n * 42) := by
  have q := NiceA.all (l := rngD (lo : Int) n) (D := 0) (W := 41) fun d hd => by
    unfold rngD at hd
    obtain ⟨i, hi, rfl⟩ := List.mem_map.mp hd
    have := List.mem_range.mp hi
    exact .int (by omega) (by omega)
  rw [rngD_len] at q
  exact q
end Pd

/-! Pd22: chains. -/
namespace Pd
open PySem L2 PyProof.Rows

def chE (p1 p2 : PwP) (ga gb gc : WG) : WE := fun ρ xq Q => ga ρ xq fun a1 ρ1 => gb ρ1 xq fun a2 ρ2 => ∃ ds, allD ρ2 [a1, a2] = some ds ∧ p1 ds fun r => ∃ b, r = .sh (.bool b) ∧ if b = true then gc ρ2 xq fun a3 ρ3 => ∃ ds, allD ρ3 [a2, a3] = some ds ∧ p2 ds fun r => Q r ρ3 else Q (.sh (.bool false)) ρ2
theorem chE_mono {p1 p2 : PwP} {ga gb gc : WG} (m1 : MonoP p1) (m2 : MonoP p2) (ma : MonoG ga) (mb : MonoG gb) (mc : MonoG gc) : MonoE (chE p1 p2 ga gb gc) := fun ρ xq Q Q' h q =>
  ma _ _ _ _ (fun a1 ρ1 q => mb _ _ _ _ (fun a2 ρ2 ⟨ds, e, q⟩ => ⟨ds, e, m1 _ _ _ (fun r ⟨b, e, q⟩ => ⟨b, e, by
    cases b with
    | true => exact mc _ _ _ _ (fun a3 ρ3 ⟨ds, e, q⟩ => ⟨ds, e, m2 _ _ _ (fun r q => h _ _ q) q⟩) q
    | false => exact h _ _ q⟩) q⟩) q) q
section
variable {G : Wd} {T : Xd} {Wx : WX} {X : Cx} {k : Nat} {Ha : Hp} {E : Av} {Fa : Fo} {σ : L2.St} {H H1 H2 : Hp} {ρ : List Sl} {F F1 : Fo} {xq : XQ} {W : Av} {a b c : Expr} {pos : Pos} {ga gb gc : WG}
theorem AvsOk.tail {f : List Addr} {v : V} {vs : List V} {av : AV} {avs : List AV} (h : AvsOk G W H σ f (v :: vs) (av :: avs)) : ∃ fs, AvsOk G W H σ fs vs avs := by
  cases h with
  | cons p q => exact ⟨_, q⟩
theorem Rs.ext {av : AV} {ρ' : List Sl} {v : V} {f : List Addr} (r : Rs G Ha E Fa σ H F av ρ' v H1 F1 f) (kp : ∀ a o, H1 a = some o → H2 a = some o) : Rs G Ha E Fa σ H F av ρ' v H2 F1 f where
  st := (r.st.ext (f := []) kp (fun a h => (by cases h)) (fun a h => (by cases h))).less fun a h => .inl h
  fr := r.fr.trans ⟨fun a o h _ => kp a o h, fun a h => by
    cases w : H1 a with
    | none => exact absurd w h
    | some o => rw [kp a o w]; simp, fun a h => .inl h⟩
  ow := r.ow.mv ⟨fun a o h _ => kp a o h, fun a h => .inl h⟩ fun a h => by
    cases w : H1 a with
    | none => exact absurd w (r.ow.tr a h)
    | some o => exact kp a o w
  na := r.na
  nw := r.nw
/-- the chain's steps -/
theorem ch_go {p1 p2 : PwP} {Q : VK} {Q0 : R → List Sl → Prop} (m1 : MonoP p1) (m2 : MonoP p2) (ma : MonoG ga) (mb : MonoG gb) (mc : MonoG gc) (S : St G Ha E Fa σ H ρ F) (xp : XP G T Ha E Fa Wx H F xq) (h : chE p1 p2 ga gb gc ρ xq Q0)
    (k : ∀ r ρ' v H' F' f, Q0 r ρ' → Rs G Ha E Fa σ H F (.rv r) ρ' v H' F' f → Q v H') : tChain (r2P G p1) (r2P G p2) (tG G T Wx ga) (tG G T Wx gb) (tG G T Wx gc) σ H Q := by
  refine tG.mk ma S xp h fun a1 ρ1 v1 H1 F1 f1 q r1 => ?_
  have xp1 := (xp.step r1.fr).more (E' := orF E f1) fun a h => .inl h
  refine tG.mk mb r1.st xp1 q fun a2 ρ2 v2 H2 F2 f2 q r2 => ?_
  obtain ⟨ds, e, q⟩ := q
  have RA : RsA G Ha E Fa σ H F [a1, a2] ρ2 [v1, v2] H2 F2 (f1 ++ (f2 ++ [])) := .cons S r1 (.cons r1.st r2 (.nil r2.st))
  refine ⟨_, ds, fun a => RA.st.vo, RA.vw e, m1 _ _ _ (fun r ⟨b, er, q⟩ v H3 f3 n => ?_) q⟩
  subst er
  have rs := New.rs RA n
  refine ⟨b, rs.bool, ?_⟩
  cases b with
  | false =>
    obtain rfl := rs.bool
    exact k _ _ _ _ _ _ q rs
  | true =>
    have r2' := r2.ext n.keep
    have xp2 := (xp1.step r2'.fr).more (E' := orF (orF E f1) f2) fun a h => .inl h
    refine tG.mk mc r2'.st xp2 q fun a3 ρ3 v3 H4 F4 f4 q r3 => ?_
    obtain ⟨ds2, e2, q⟩ := q
    have RB : RsA G Ha E Fa σ H F [a1, a2, a3] ρ3 [v1, v2, v3] H4 F4 (f1 ++ (f2 ++ (f4 ++ []))) := .cons S r1 (.cons r1.st r2' (.cons r2'.st r3 (.nil r3.st)))
    obtain ⟨fs, ow2⟩ := RB.ow.tail
    have vw := ow2.vw (fun i s e => ⟨_, RB.st.sl i s e⟩) e2
    refine ⟨_, ds2, fun a => RB.st.vo, ?_, m2 _ _ _ (fun r q v H' f' n' => k _ _ _ _ _ _ q (New.rs RB n')) q⟩
    exact vw
theorem eCh {op op' : CmpOp} {p1 p2 : PwP} (h1 : Co G X op p1) (h2 : Co G X op' p2) (ha : Gg G T Wx X a ga) (hb : Gg G T Wx X b gb) (hc : Gg G T Wx X c gc) (hm : lastMarks [op, op'] [b, c] = false := by with_unfolding_all rfl) : Ee G T Wx X (.Compare a [op, op'] [b, c] pos) (chE p1 p2 ga gb gc) := by
  refine ⟨chE_mono h1.m h2.m ha.m hb.m hc.m, ⟨fun pins s σ H Q I h' => ?_⟩⟩
  obtain ⟨Ha, E, Fa, ρ, F, xq, S, xp, h⟩ := h'
  exact (pe_chain h1.r h2.r ha.p hb.p hc.p hm).run pins s σ H Q I (ch_go h1.m h2.m ha.m hb.m hc.m S xp h fun r ρ' v H' F' f q rs => q v H' F' f rs)
theorem tCh {op op' : CmpOp} {p1 p2 : PwP} (h1 : Co G X op p1) (h2 : Co G X op' p2) (ha : Gg G T Wx X a ga) (hb : Gg G T Wx X b gb) (hc : Gg G T Wx X c gc) (hm : lastMarks [op, op'] [b, c] = false := by with_unfolding_all rfl) : Tt G T Wx X (.Compare a [op, op'] [b, c] pos) (valT (chE p1 p2 ga gb gc)) := by
  refine ⟨valT_mono (chE_mono h1.m h2.m ha.m hb.m hc.m), ⟨fun pins s σ H Q I h' => ?_⟩⟩
  obtain ⟨Ha, E, Fa, ρ, F, xq, S, xp, h⟩ := h'
  refine (pt_chain h1.r h2.r ha.p hb.p hc.p hm).run pins s σ H Q I (ch_go h1.m h2.m ha.m hb.m hc.m S xp h fun r ρ' v H' F' f q rs => ?_)
  obtain ⟨b, rfl, q⟩ := q
  exact ⟨b, rs.bool, q _ _ rs.bare.1 rs.bare.2.1⟩
end
end Pd

/-! Pd23: laying, ways. -/
namespace Pd
open PySem L2 PyProof.Rows

def FillOk : It → Prop
  | .fill n => 0 < n ∧ n < 1073741824
  | _ => True
/-- the bytes of an item that begins at p -/
def bytesAt (it : It) (p : Int) (lg : Bool) : Int := match it with
  | .label => 0
  | .fill n => (-p) % n
  | .jump _ b l => if lg = true then l else b
def layGo (ls : List Int) (ch : List Nat) : Nat → Int → Sk → List (Int × Int)
  | _, _, [] => []
  | k, h, it :: sk => (h + ls.getD k 0, h + ls.getD k 0 + bytesAt it (h + ls.getD k 0) (ch.contains k)) :: layGo ls ch (k + 1) (h + ls.getD k 0 + bytesAt it (h + ls.getD k 0) (ch.contains k)) sk
def lay (ls : List Int) (ch : List Nat) (sk : Sk) : List (Int × Int) := layGo ls ch 0 0 sk
theorem layGo_len {ls : List Int} {ch : List Nat} : ∀ {sk : Sk} {k : Nat} {h : Int}, (layGo ls ch k h sk).length = sk.length
  | [], _, _ => rfl
  | it :: sk, k, h => congrArg (· + 1) layGo_len
theorem lay_len {ls : List Int} {ch : List Nat} {sk : Sk} : (lay ls ch sk).length = sk.length := layGo_len
def dSpot (p : Int × Int) : PyData := .tuple [.int p.1, .int p.2]
def dNums (ls : List Int) : PyData := .tuple (ls.map .int)
/-- a row of places -/
def IsRow (c : PyData) (ch : List Nat) : Prop := c = .tuple (dInts ch) ∨ c = .list (dInts ch)
theorem plain_row : ∀ ch : List Nat, PyData.plainAll (dInts ch) = true
  | [] => rfl
  | c :: ch => by
    show (PyData.plain (.int c) && PyData.plainAll (dInts ch)) = true
    rw [plain_row ch]
    rfl
theorem any_row (p : Nat) : ∀ ch : List Nat, ((dInts ch).any fun y => PyData.eqv y (.int p)) = ch.contains p
  | [] => rfl
  | c :: ch => by
    show (PyData.eqv (.int c) (.int p) || (dInts ch).any _) = _
    rw [any_row p ch, List.contains_cons]
    congr 1
    show ((c : Int) == (p : Int)) = (p == c)
    by_cases h : c = p
    · subst h
      rw [beq_self_eq_true, beq_self_eq_true]
    · rw [beq_eq_false_iff_ne.mpr (by omega), beq_eq_false_iff_ne.mpr (by omega)]
theorem inD_row {p : Nat} {c : PyData} {ch : List Nat} (h : IsRow c ch) : inD (.int p) c = some (ch.contains p) := by
  have z : (if PyData.plainAll (dInts ch) && PyData.plain (.int p) && decide (min (PyData.depthAll (dInts ch)) (PyData.depth (.int p)) ≤ 100) then some ((dInts ch).any fun y => PyData.eqv y (.int p)) else none) = some (ch.contains p) := by
    rw [plain_row, any_row, show PyData.plain (.int p) = true from rfl, decide_eq_true (Nat.le_trans (Nat.min_le_right _ _) (by show 0 ≤ 100; decide))]
    rfl
  rcases h with rfl | rfl
  · exact z
  · exact z
theorem pIn_row {p : Nat} {c : PyData} {ch : List Nat} {Q : R → Prop} (h : IsRow c ch) (q : Q (.sh (.bool (ch.contains p)))) : pIn [.int p, c] Q := ⟨_, _, _, rfl, inD_row h, q⟩
theorem pNin_row {p : Nat} {c : PyData} {ch : List Nat} {Q : R → Prop} (h : IsRow c ch) (q : Q (.sh (.bool (!ch.contains p)))) : pNin [.int p, c] Q := ⟨_, _, _, rfl, inD_row h, q⟩
theorem nums_at {ls : List Int} {k : Nat} (h : k < ls.length) : atI (ls.map PyData.int) (k : Int) = some (.int (ls.getD k 0)) :=
  atI_get (by rw [List.getElem?_map, List.getElem?_eq_getElem h, List.getD_eq_getElem?_getD, List.getElem?_eq_getElem h]; rfl)
theorem spot_at {sp : List (Int × Int)} {k : Nat} (h : k < sp.length) : atI (sp.map dSpot) (k : Int) = some (dSpot (sp.getD k (0, 0))) :=
  atI_get (by rw [List.getElem?_map, List.getElem?_eq_getElem h, List.getD_eq_getElem?_getD, List.getElem?_eq_getElem h]; rfl)
/-- the way between a jump and its goal -/
def wayB (sp : List (Int × Int)) (j g : Nat) : Int := if g > j then (sp.getD g (0, 0)).1 - (sp.getD j (0, 0)).2 else (sp.getD j (0, 0)).2 - (sp.getD g (0, 0)).1
def wayOf (sk : Sk) (ls : List Int) (ch : List Nat) (j g : Nat) : Int := wayB (lay ls (ch.filter fun c => decide (c ≠ j)) sk) j g
def gOther (j : Nat) : PyData → Option PyData
  | .int i => if (!decide (i = (j : Int))) = true then some (.int i) else none
  | _ => none
theorem other_ints (j : Nat) : ∀ ch : List Nat, (dInts ch).filterMap (gOther j) = dInts (ch.filter fun c => decide (c ≠ j))
  | [] => rfl
  | c :: ch => by
    show (PyData.int c :: dInts ch).filterMap (gOther j) = _
    rw [List.filterMap_cons, List.filter_cons]
    by_cases h : c = j
    · rw [show gOther j (.int c) = none from if_neg (by rw [decide_eq_true (by omega)]; decide), other_ints j ch, if_neg (by rw [decide_eq_false (by omega)]; decide)]
    · rw [show gOther j (.int c) = some (.int c) from if_pos (by rw [decide_eq_false (by omega)]; rfl), other_ints j ch, if_pos (decide_eq_true h)]
      rfl
/-- rounding up -/
theorem round_up {h n : Int} (hn : 0 < n) : (h + n - 1) / n * n = h + (-h) % n := by
  have e1 := Int.emod_add_mul_ediv (-h) n
  have m0 := Int.emod_nonneg (-h) (show n ≠ 0 by omega)
  have m1 := Int.emod_lt_of_pos (-h) hn
  generalize (-h) % n = r at *
  generalize (-h) / n = q at *
  have e4 : (-q) * n = -(n * q) := by rw [Int.neg_mul, Int.mul_comm]
  have h7 : h + n - 1 = (n - 1 - r) + (-q) * n := by omega
  rw [h7, Int.add_mul_ediv_right _ _ (by omega), Int.ediv_eq_zero_of_lt (by omega) (by omega), Int.zero_add]
  omega
end Pd

/-! Pd24: one byte more of a length. -/
namespace Pd
open PySem L2 PyProof.Rows

theorem layGo_0 {ls : List Int} {ch : List Nat} {k : Nat} {h : Int} {it : It} {sk : Sk} : ((layGo ls ch k h (it :: sk)).getD 0 (0, 0)).1 = h + ls.getD k 0 := rfl
theorem layGo_end {ls : List Int} {ch : List Nat} : ∀ {sk : Sk} {k i : Nat} {h : Int} {it : It}, sk[i]? = some it → ((layGo ls ch k h sk).getD i (0, 0)).2 = ((layGo ls ch k h sk).getD i (0, 0)).1 + bytesAt it ((layGo ls ch k h sk).getD i (0, 0)).1 (ch.contains (k + i))
  | [], _, _, _, _, e => nomatch e
  | x :: sk, k, 0, h, it, e => by
    rw [show it = x from (Option.some.inj e).symm]
    rfl
  | x :: sk, k, i + 1, h, it, e => by
    have q := layGo_end (ls := ls) (ch := ch) (sk := sk) (k := k + 1) (i := i) (h := h + ls.getD k 0 + bytesAt x (h + ls.getD k 0) (ch.contains k)) (it := it) e
    rw [show k + 1 + i = k + (i + 1) by omega] at q
    exact q
theorem layGo_next {ls : List Int} {ch : List Nat} : ∀ {sk : Sk} {k i : Nat} {h : Int}, i + 1 < sk.length → ((layGo ls ch k h sk).getD (i + 1) (0, 0)).1 = ((layGo ls ch k h sk).getD i (0, 0)).2 + ls.getD (k + (i + 1)) 0
  | [], _, _, _, e => nomatch e
  | [x], k, i, h, e => by simp at e
  | x :: y :: sk, k, 0, h, e => rfl
  | x :: y :: sk, k, i + 1, h, e => by
    have q := layGo_next (ls := ls) (ch := ch) (sk := y :: sk) (k := k + 1) (i := i) (h := h + ls.getD k 0 + bytesAt x (h + ls.getD k 0) (ch.contains k)) (by simpa using e)
    rw [show k + 1 + (i + 1) = k + (i + 1 + 1) by omega] at q
    exact q
def bgn (sk : Sk) (ls : List Int) (ch : List Nat) (i : Nat) : Int := ((lay ls ch sk).getD i (0, 0)).1
def fin (sk : Sk) (ls : List Int) (ch : List Nat) (i : Nat) : Int := ((lay ls ch sk).getD i (0, 0)).2
theorem bgn_0 {sk : Sk} {ls : List Int} {ch : List Nat} (h : 0 < sk.length) : bgn sk ls ch 0 = ls.getD 0 0 := by
  cases sk with
  | nil => exact nomatch h
  | cons x sk =>
    show (0 : Int) + ls.getD 0 0 = _
    rw [Int.zero_add]
theorem bgn_next {sk : Sk} {ls : List Int} {ch : List Nat} {i : Nat} (h : i + 1 < sk.length) : bgn sk ls ch (i + 1) = fin sk ls ch i + ls.getD (i + 1) 0 := by
  have q := layGo_next (ls := ls) (ch := ch) (k := 0) (h := 0) h
  rw [Nat.zero_add] at q
  exact q
theorem fin_at {sk : Sk} {ls : List Int} {ch : List Nat} {i : Nat} {it : It} (h : sk[i]? = some it) : fin sk ls ch i = bgn sk ls ch i + bytesAt it (bgn sk ls ch i) (ch.contains i) := by
  have q := layGo_end (ls := ls) (ch := ch) (k := 0) (h := 0) h
  rw [Nat.zero_add] at q
  exact q
def IsFill : It → Prop
  | .fill _ => True
  | _ => False
theorem bytes_same {it : It} {p p' : Int} {lg : Bool} (h : ¬ IsFill it) : bytesAt it p lg = bytesAt it p' lg := by
  cases it with
  | fill n => exact absurd trivial h
  | jump g b l => rfl
  | label => rfl
theorem mult_le {n q : Int} (hn : 0 < n) (h : n * q < n) : n * q ≤ 0 := by
  have : q < 1 := by
    refine Int.lt_of_not_ge fun g => ?_
    have := Int.mul_le_mul_of_nonneg_left g (Int.le_of_lt hn)
    omega
  have := Int.mul_le_mul_of_nonneg_left (show q ≤ 0 by omega) (Int.le_of_lt hn)
  omega
theorem bump {n m p d : Int} (hn : 0 < n) (hm : m % n = 0) (h0 : 0 ≤ d) (h1 : d ≤ m) : 0 ≤ d + ((-(p + d)) % n - (-p) % n) ∧ d + ((-(p + d)) % n - (-p) % n) ≤ m := by
  have a1 := Int.emod_add_mul_ediv (-p) n
  have a2 := Int.emod_nonneg (-p) (show n ≠ 0 by omega)
  have a3 := Int.emod_lt_of_pos (-p) hn
  have b1 := Int.emod_add_mul_ediv (-(p + d)) n
  have b2 := Int.emod_nonneg (-(p + d)) (show n ≠ 0 by omega)
  have b3 := Int.emod_lt_of_pos (-(p + d)) hn
  have c1 := Int.emod_add_mul_ediv m n
  rw [hm] at c1
  generalize (-p) % n = r at *
  generalize (-p) / n = q at *
  generalize (-(p + d)) % n = r' at *
  generalize (-(p + d)) / n = q' at *
  generalize m / n = t at *
  have e1 : n * (q' - q) = n * q' - n * q := Int.mul_sub n q' q
  have e2 : n * (q - q' - t) = n * q - n * q' - n * t := by rw [Int.mul_sub, Int.mul_sub]
  have m1 := mult_le (q := q' - q) hn (by omega)
  have m2 := mult_le (q := q - q' - t) hn (by omega)
  constructor <;> omega
/-- what one byte more at s does to begins -/
structure More (ls ls' : List Int) (s : Nat) : Prop where
  at_ : ls'.getD s 0 = ls.getD s 0 + 1
  ne : ∀ i, i ≠ s → ls'.getD i 0 = ls.getD i 0
section
variable {sk : Sk} {ls ls' : List Int} {ch : List Nat} {s : Nat}
def dB (sk : Sk) (ls ls' : List Int) (ch : List Nat) (i : Nat) : Int := bgn sk ls' ch i - bgn sk ls ch i
def dF (sk : Sk) (ls ls' : List Int) (ch : List Nat) (i : Nat) : Int := fin sk ls' ch i - fin sk ls ch i
theorem dF_same {i : Nat} {it : It} (h : sk[i]? = some it) (hf : ¬ IsFill it) : dF sk ls ls' ch i = dB sk ls ls' ch i := by
  unfold dF dB
  rw [fin_at h, fin_at h, bytes_same (p := bgn sk ls' ch i) (p' := bgn sk ls ch i) hf]
  omega
theorem dF_fill {i : Nat} {n m : Int} (h : sk[i]? = some (.fill n)) (hn : 0 < n) (hm : m % n = 0) (h0 : 0 ≤ dB sk ls ls' ch i) (h1 : dB sk ls ls' ch i ≤ m) : 0 ≤ dF sk ls ls' ch i ∧ dF sk ls ls' ch i ≤ m := by
  have q := bump (p := bgn sk ls ch i) hn hm h0 h1
  unfold dB at q h0 h1
  unfold dF
  rw [fin_at h, fin_at h]
  show 0 ≤ bgn sk ls' ch i + (-(bgn sk ls' ch i)) % n - (bgn sk ls ch i + (-(bgn sk ls ch i)) % n) ∧ bgn sk ls' ch i + (-(bgn sk ls' ch i)) % n - (bgn sk ls ch i + (-(bgn sk ls ch i)) % n) ≤ m
  rw [show bgn sk ls ch i + (bgn sk ls' ch i - bgn sk ls ch i) = bgn sk ls' ch i by omega] at q
  omega
theorem dF_zero {i : Nat} {it : It} (h : sk[i]? = some it) (h0 : dB sk ls ls' ch i = 0) : dF sk ls ls' ch i = 0 := by
  unfold dB at h0
  unfold dF
  rw [fin_at h, fin_at h, show bgn sk ls' ch i = bgn sk ls ch i by omega]
  omega
theorem dB_next {i : Nat} (h : i + 1 < sk.length) : dB sk ls ls' ch (i + 1) = dF sk ls ls' ch i + (ls'.getD (i + 1) 0 - ls.getD (i + 1) 0) := by
  unfold dB dF
  rw [bgn_next h, bgn_next h]
  omega
theorem More.ahead (M : More ls ls' s) : ∀ {i : Nat}, i < s → i < sk.length → dB sk ls ls' ch i = 0
  | 0, h, hl => by
    unfold dB
    rw [bgn_0 hl, bgn_0 hl, M.ne 0 (by omega)]
    omega
  | i + 1, h, hl => by
    rw [dB_next hl, M.ne (i + 1) (by omega), dF_zero (List.getElem?_eq_getElem (show i < sk.length by omega)) (M.ahead (by omega) (by omega))]
    omega
theorem More.here (M : More ls ls' s) (h : s < sk.length) : dB sk ls ls' ch s = 1 := by
  cases s with
  | zero =>
    unfold dB
    rw [bgn_0 h, bgn_0 h, M.at_]
    omega
  | succ i =>
    rw [dB_next h, M.at_, dF_zero (List.getElem?_eq_getElem (show i < sk.length by omega)) (M.ahead (by omega) (by omega))]
    omega
/-- behind: kept where no fill stands -/
theorem More.keep (M : More ls ls' s) {a c : Nat} (ha : s ≤ a) (hl : c < sk.length) (hf : ∀ i it, a ≤ i → i < c → sk[i]? = some it → ¬ IsFill it) : ∀ {i : Nat}, a ≤ i → i ≤ c → dB sk ls ls' ch i = dB sk ls ls' ch a
  | 0, h1, h2 => by rw [show a = 0 by omega]
  | i + 1, h1, h2 => by
    by_cases e : a = i + 1
    · rw [e]
    · have g := List.getElem?_eq_getElem (show i < sk.length by omega)
      rw [dB_next (by omega), M.ne (i + 1) (by omega), dF_same g (hf i _ (by omega) (by omega) g), M.keep ha hl hf (by omega) (by omega)]
      omega
theorem More.bound (M : More ls ls' s) {c : Nat} {m : Int} (hm : 1 ≤ m) (hl : c < sk.length) (hf : ∀ i n, s ≤ i → i < c → sk[i]? = some (.fill n) → 0 < n ∧ m % n = 0) : ∀ {i : Nat}, s ≤ i → i ≤ c → 0 ≤ dB sk ls ls' ch i ∧ dB sk ls ls' ch i ≤ m
  | i, h1, h2 => by
    by_cases e : s = i
    · subst e
      rw [M.here (by omega)]
      omega
    · cases i with
      | zero => omega
      | succ i =>
        have q := M.bound hm hl hf (i := i) (by omega) (by omega)
        have g := List.getElem?_eq_getElem (show i < sk.length by omega)
        rw [dB_next (by omega), M.ne (i + 1) (by omega)]
        have z : 0 ≤ dF sk ls ls' ch i ∧ dF sk ls ls' ch i ≤ m := by
          cases e2 : sk[i]'(by omega) with
          | fill n =>
            rw [e2] at g
            have := hf i n (by omega) (by omega) g
            exact dF_fill g this.1 this.2 q.1 q.2
          | label =>
            rw [dF_same g (by rw [e2]; exact id)]
            exact q
          | jump a b l =>
            rw [dF_same g (by rw [e2]; exact id)]
            exact q
        omega
/-- by how much a way may grow -/
def BoundD (sk : Sk) (j g s : Nat) (d : PyData) : Prop :=
  (max j g < s ∧ d = .tuple [.int 0, .int 0]) ∨
  (s ≤ min j g ∧ (∀ i it, min j g < i → i < max j g → sk[i]? = some it → ¬ IsFill it) ∧ d = .tuple [.int 0, .int 0]) ∨
  (s ≤ min j g ∧ d = .none) ∨
  (min j g < s ∧ s ≤ max j g ∧ (∀ i it, s ≤ i → i < max j g → sk[i]? = some it → ¬ IsFill it) ∧ d = .tuple [.int 1, .int 1]) ∨
  (min j g < s ∧ s ≤ max j g ∧ ∃ m : Int, 1 ≤ m ∧ (∀ i n, s ≤ i → i < max j g → sk[i]? = some (.fill n) → 0 < n ∧ m % n = 0) ∧ d = .tuple [.int 0, .int m])
theorem way_d {j g : Nat} {b l : Int} (hj : sk[j]? = some (.jump g b l)) (hg : sk[g]? = some .label) :
    wayB (lay ls' ch sk) j g - wayB (lay ls ch sk) j g = dB sk ls ls' ch (max j g) - dB sk ls ls' ch (min j g) := by
  have fj : dF sk ls ls' ch j = dB sk ls ls' ch j := dF_same hj (fun h => h)
  unfold wayB
  unfold dF at fj
  unfold dB at *
  unfold fin at fj
  unfold bgn at *
  split
  · rw [Nat.max_eq_right (by omega), Nat.min_eq_left (by omega)]
    omega
  · rw [Nat.max_eq_left (by omega), Nat.min_eq_right (by omega)]
    omega
theorem way_bound {j g : Nat} {b l : Int} {d : PyData} (M : More ls ls' s) (hj : sk[j]? = some (.jump g b l)) (hg : sk[g]? = some .label) (hd : BoundD sk j g s d) :
    d = .none ∨ ∃ lo hi : Int, d = .tuple [.int lo, .int hi] ∧ lo ≤ wayB (lay ls' ch sk) j g - wayB (lay ls ch sk) j g ∧ wayB (lay ls' ch sk) j g - wayB (lay ls ch sk) j g ≤ hi := by
  have lj := lt_of_get hj
  have lg := lt_of_get hg
  rw [way_d hj hg]
  rcases hd with ⟨h, rfl⟩ | ⟨h, hf, rfl⟩ | ⟨h, rfl⟩ | ⟨h1, h2, hf, rfl⟩ | ⟨h1, h2, m, hm, hf, rfl⟩
  · refine .inr ⟨0, 0, rfl, ?_⟩
    rw [M.ahead (by omega) (by omega), M.ahead (by omega) (by omega)]
    decide
  · refine .inr ⟨0, 0, rfl, ?_⟩
    rw [M.keep (a := min j g) (c := max j g) h (by omega) (fun i it hi hl e => by
      by_cases z : min j g < i
      · exact hf i it z hl e
      · rcases (show i = j ∨ i = g by omega) with rfl | rfl
        · rw [hj] at e; cases e; exact id
        · rw [hg] at e; cases e; exact id) (by omega) (Nat.le_refl _)]
    omega
  · exact .inl rfl
  · refine .inr ⟨1, 1, rfl, ?_⟩
    rw [M.ahead (i := min j g) (by omega) (by omega), M.keep (a := s) (c := max j g) (Nat.le_refl _) (by omega) hf h2 (Nat.le_refl _), M.here (by omega)]
    decide
  · refine .inr ⟨0, m, rfl, ?_⟩
    have q := M.bound (ch := ch) hm (c := max j g) (by omega) hf h2 (Nat.le_refl _)
    rw [M.ahead (i := min j g) (by omega) (by omega)]
    omega
end
/-! ### lists of ints -/
theorem plain_intA : ∀ ms : List Int, PyData.plainAll (ms.map .int) = true
  | [] => rfl
  | c :: ch => by
    show (PyData.plain (.int c) && PyData.plainAll (ch.map .int)) = true
    rw [plain_intA ch]
    rfl
theorem depth_ints : ∀ ms : List Int, PyData.depthAll (ms.map .int) = 0
  | [] => rfl
  | c :: ch => by
    show max _ (PyData.depthAll (ch.map .int)) = 0
    rw [depth_ints ch]
    rfl
theorem alike_ints (ms : List Int) : PySem.W.AlikeAll (ms.map .int) := by
  refine ⟨fun x hx y hy => ?_, fun x hx => ?_⟩
  · obtain ⟨a, _, rfl⟩ := List.mem_map.mp hx
    obtain ⟨b, _, rfl⟩ := List.mem_map.mp hy
    rfl
  · obtain ⟨a, _, rfl⟩ := List.mem_map.mp hx
    exact fun h => (nomatch h)
theorem pEq_nil {ms : List Int} {Q : R → Prop} (h : Q (.sh (.bool ms.isEmpty))) : pEq [.list (ms.map .int), .list []] Q := by
  refine ⟨_, _, rfl, plain_intA ms, rfl, Nat.le_trans (Nat.min_le_right _ _) (by decide), ?_⟩
  cases ms with
  | nil => exact h
  | cons m ms => exact h
theorem foldl_max : ∀ (ms : List Int) (a : Int), (ms.foldl max a = a ∨ ms.foldl max a ∈ ms) ∧ a ≤ ms.foldl max a ∧ ∀ x ∈ ms, x ≤ ms.foldl max a
  | [], a => ⟨.inl rfl, Int.le_refl _, fun x h => (nomatch h)⟩
  | m :: ms, a => by
    have q := foldl_max ms (max a m)
    rw [List.foldl_cons]
    refine ⟨?_, by omega, fun x hx => ?_⟩
    · rcases q.1 with e | e
      · rw [e]
        by_cases z : m ≤ a
        · rw [Int.max_eq_left z]; exact .inl rfl
        · rw [Int.max_eq_right (by omega)]; exact .inr (by simp)
      · exact .inr (List.mem_cons_of_mem _ e)
    · rcases List.mem_cons.mp hx with rfl | hx
      · omega
      · exact q.2.2 x hx
theorem pMax_ints {m : Int} {ms : List Int} {Q : R → Prop} (h : ∀ x : Int, x ∈ m :: ms → (∀ y ∈ m :: ms, y ≤ x) → Q (.sh (.int x))) : pMax [.list ((m :: ms).map .int)] Q := by
  refine ⟨alike_ints (m :: ms), plain_intA (m :: ms), Nat.le_trans (Nat.le_of_eq (depth_ints (m :: ms))) (by decide), ?_⟩
  rw [PySem.W.maxD_ints]
  have q := foldl_max ms m
  refine h _ ?_ fun y hy => ?_
  · rcases q.1 with e | e
    · rw [e]; simp
    · exact List.mem_cons_of_mem _ e
  · rcases List.mem_cons.mp hy with rfl | hy
    · exact q.2.1
    · exact q.2.2 y hy
theorem pMax_ne {l : List Int} {Q : R → Prop} (e : l.isEmpty = false) (h : ∀ x : Int, x ∈ l → (∀ y ∈ l, y ≤ x) → Q (.sh (.int x))) : pMax [.list (l.map .int)] Q := by
  cases l with
  | nil => exact nomatch e
  | cons m ms => exact pMax_ints h
/-! ### slices -/
theorem cutD_nat {l : List PyData} {a b : Nat} (ha : a ≤ l.length) (hb : b ≤ l.length) : cutD l (some (a : Int)) (some (b : Int)) = (l.drop a).take (b - a) := by
  unfold cutD
  rw [HT.sIx_nat, HT.sIx_nat, Nat.min_eq_left ha, Nat.min_eq_left hb]
theorem cutD_drop {l : List PyData} {a : Nat} (ha : a ≤ l.length) : cutD l (some (a : Int)) none = l.drop a := by
  unfold cutD
  rw [HT.sIx_nat, HT.sIx_none, Nat.min_eq_left ha, List.take_of_length_le (by rw [List.length_drop]; omega)]
def fillN : It → Option Int
  | .fill n => some n
  | _ => none
/-- the fills from a up to b -/
def fillsOf (sk : Sk) (a b : Nat) : List Int := ((sk.drop a).take (b - a)).filterMap fillN
theorem mem_fills {sk : Sk} {a b : Nat} {n : Int} : n ∈ fillsOf sk a b ↔ ∃ i, a ≤ i ∧ i < b ∧ sk[i]? = some (.fill n) := by
  unfold fillsOf
  rw [List.mem_filterMap]
  constructor
  · rintro ⟨it, h, e⟩
    obtain ⟨i, hi, e2⟩ := List.mem_iff_getElem.mp h
    rw [List.length_take, List.length_drop] at hi
    rw [List.getElem_take, List.getElem_drop] at e2
    refine ⟨a + i, by omega, by omega, ?_⟩
    rw [List.getElem?_eq_getElem (by omega), e2]
    cases it with
    | fill m => rw [Option.some.inj e]
    | label => exact nomatch e
    | jump a b l => exact nomatch e
  · rintro ⟨i, h1, h2, h3⟩
    refine ⟨.fill n, List.mem_iff_getElem?.mpr ⟨i - a, ?_⟩, rfl⟩
    rw [List.getElem?_take_of_lt (by omega), List.getElem?_drop, show a + (i - a) = i by omega]
    exact h3
def gFill : PyData → Option PyData
  | .tuple [.str w, .int n] => if (w == ("fill" : Str)) = true then some (.int n) else none
  | _ => none
theorem fill_ints : ∀ sk : Sk, (sk.map dIt).filterMap gFill = (sk.filterMap fillN).map .int
  | [] => rfl
  | it :: sk => by
    rw [List.map_cons, List.filterMap_cons, List.filterMap_cons, fill_ints sk]
    cases it <;> rfl
theorem cut_fills {sk : Sk} {a b : Nat} (ha : a ≤ sk.length) (hb : b ≤ sk.length) : (cutD (sk.map dIt) (some (a : Int)) (some (b : Int))).filterMap gFill = (fillsOf sk a b).map .int := by
  rw [cutD_nat (by rw [List.length_map]; exact ha) (by rw [List.length_map]; exact hb), ← List.map_drop, ← List.map_take, fill_ints]
  rfl
theorem no_fill {sk : Sk} {a b : Nat} (h : (fillsOf sk a b).isEmpty = true) {i : Nat} {it : It} (h1 : a ≤ i) (h2 : i < b) (h3 : sk[i]? = some it) : ¬ IsFill it := by
  cases it with
  | fill n =>
    have := mem_fills.mpr ⟨i, h1, h2, h3⟩
    rw [List.isEmpty_iff.mp h] at this
    exact nomatch this
  | label => exact id
  | jump a b l => exact id
def Pow (n : Int) : Prop := n = 2 ∨ n = 4 ∨ n = 8 ∨ n = 16 ∨ n = 32 ∨ n = 64
theorem Pow.dvd {n m : Int} (h : Pow n) (h2 : Pow m) (l : n ≤ m) : m % n = 0 := by
  rcases h with rfl | rfl | rfl | rfl | rfl | rfl <;> rcases h2 with rfl | rfl | rfl | rfl | rfl | rfl <;> first | rfl | omega
theorem SkOk.fill {sk : Sk} (h : SkOk sk) {i : Nat} {n : Int} (e : sk[i]? = some (.fill n)) : Pow n := h.2.1 _ (List.mem_of_getElem? e)
theorem SkOk.ok {sk : Sk} (h : SkOk sk) : ∀ it ∈ sk, FillOk it := fun it hi => by
  have q := h.2.1 it hi
  cases it with
  | fill n =>
    have q : Pow n := q
    unfold Pow at q
    exact ⟨by omega, by omega⟩
  | label => trivial
  | jump a b l => trivial
/-! ### bounds -/
theorem bytes_bd {n : Nat} {it : It} {p : Int} {lg : Bool} (h : ItOk n it) : 0 ≤ bytesAt it p lg ∧ bytesAt it p lg ≤ 999 := by
  cases it with
  | label => exact ⟨Int.le_refl _, by show (0 : Int) ≤ 999; decide⟩
  | fill m =>
    have h : Pow m := h
    unfold Pow at h
    show 0 ≤ (-p) % m ∧ (-p) % m ≤ 999
    have := Int.emod_nonneg (-p) (show m ≠ 0 by omega)
    have := Int.emod_lt_of_pos (-p) (show 0 < m by omega)
    omega
  | jump g b l =>
    obtain ⟨_, h1, h2, h3, h4⟩ := h
    cases lg with
    | true => exact ⟨by show 0 ≤ l; omega, by show l ≤ 999; omega⟩
    | false => exact ⟨by show 0 ≤ b; omega, by show b ≤ 999; omega⟩
theorem bgn_bd {sk : Sk} {ls : List Int} {ch : List Nat} (hs : SkOk sk) (hl : ∀ i, 0 ≤ ls.getD i 0 ∧ ls.getD i 0 ≤ 1000000001) : ∀ i, i < sk.length → (0 ≤ bgn sk ls ch i ∧ bgn sk ls ch i ≤ 1000001100 * (i + 1)) ∧ (0 ≤ fin sk ls ch i ∧ fin sk ls ch i ≤ 1000001100 * (i + 1))
  | 0, h => by
    have g := List.getElem?_eq_getElem h
    have b := bytes_bd (p := bgn sk ls ch 0) (lg := ch.contains 0) (hs.2.1 _ (List.mem_of_getElem? g))
    rw [fin_at g]
    rw [bgn_0 h] at *
    have := hl 0
    omega
  | i + 1, h => by
    have g := List.getElem?_eq_getElem h
    have b := bytes_bd (p := bgn sk ls ch (i + 1)) (lg := ch.contains (i + 1)) (hs.2.1 _ (List.mem_of_getElem? g))
    rw [fin_at g]
    rw [bgn_next h] at *
    have := hl (i + 1)
    have := bgn_bd (ch := ch) hs hl i (by omega)
    omega
theorem way_bd {sk : Sk} {ls : List Int} {ch : List Nat} {j g : Nat} (hs : SkOk sk) (hl : ∀ i, 0 ≤ ls.getD i 0 ∧ ls.getD i 0 ≤ 1000000001) (hj : j < sk.length) (hg : g < sk.length) : -1000000000000 < wayOf sk ls ch j g ∧ wayOf sk ls ch j g < 1000000000000 := by
  have a := bgn_bd (ch := ch.filter fun c => decide (c ≠ j)) hs hl j hj
  have b := bgn_bd (ch := ch.filter fun c => decide (c ≠ j)) hs hl g hg
  have := hs.1
  unfold wayOf wayB
  unfold bgn fin at a b
  split <;> omega
theorem more_set {ls : List Int} {s : Nat} (h : s < ls.length) : More ls (ls.set s (ls.getD s 0 + 1)) s := by
  refine ⟨?_, fun i hi => ?_⟩
  · rw [List.getD_eq_getElem?_getD, List.getElem?_set_self h]
    rfl
  · rw [List.getD_eq_getElem?_getD, List.getElem?_set_ne (by omega), List.getD_eq_getElem?_getD]
theorem set_nums {ls : List Int} {s : Nat} (h : s < ls.length) : PyData.tuple (cutD (ls.map .int) none (some (s : Int)) ++ [.int (ls.getD s 0 + 1)] ++ cutD (ls.map .int) (some ((s : Int) + 1)) none) = dNums (ls.set s (ls.getD s 0 + 1)) := by
  rw [cutD_take, show ((s : Int) + 1) = ((s + 1 : Nat) : Int) by omega, cutD_drop (by rw [List.length_map]; omega), List.set_eq_take_append_cons_drop, if_pos h]
  unfold dNums
  rw [List.map_append, List.map_cons, List.map_take, List.map_drop, List.append_assoc]
  rfl
theorem nums_bd {ls : List Int} (h : ∀ x ∈ ls, 0 ≤ x ∧ x ≤ 1000000000) (i : Nat) : 0 ≤ ls.getD i 0 ∧ ls.getD i 0 ≤ 1000000000 := by
  rw [List.getD_eq_getElem?_getD]
  cases e : ls[i]? with
  | none => exact ⟨by decide, by decide⟩
  | some x => exact h x (List.mem_of_getElem? e)
theorem pNe_strF {x : Str} {Q : R → Prop} (h : Q (.sh (.bool false))) : pNe [.str x, .str x] Q := pNe_str (by
  rw [beq_self_eq_true]
  exact h)
theorem dNums_two {x y : Int} (hx : -1000000000000 < x ∧ x < 1000000000000) (hy : -1000000000000 < y ∧ y < 1000000000000) : Nice (.list [.int x, .int y]) 1 200 :=
  (Nice.lst (.cons (.int hx.1 hx.2) (.cons (.int hy.1 hy.2) .nil))).le (Nat.le_refl _) (by omega)
end Pd

/-! Pd25: sorted. -/
namespace Pd
open PySem L2 PyProof.Rows

/-- sorted(x): a list or a tuple of alike things -/
def srtD (l : List PyData) : List PyData := l.mergeSort (PySem.W.dataLe false id)
def pSort : PwP := fun ds Q => match ds with
  | [.list l] => PySem.W.AllAlike l ∧ PySem.W.Sortable l ∧ PyData.plainAll l = true ∧ PyData.depthAll l ≤ 100 ∧ Q (.ol (srtD l))
  | _ => False
theorem pSort_mono : MonoP pSort := by
  intro ds Q Q' h q
  unfold pSort at q ⊢
  split at q
  · exact let ⟨a, b, c, d, q⟩ := q; ⟨a, b, c, d, h _ q⟩
  · exact q
theorem depth_mem : ∀ {l : List PyData} {d : PyData}, d ∈ l → d.depth ≤ PyData.depthAll l
  | x :: l, d, h => by
    show _ ≤ max _ (PyData.depthAll l)
    rcases List.mem_cons.mp h with rfl | h
    · exact Nat.le_max_left _ _
    · exact Nat.le_trans (depth_mem h) (Nat.le_max_right _ _)
section
variable {G : Wd} {X : Cx} {W : Av} {H : Hp}
theorem each_has {K : PySem.W.Frag} : ∀ {l : List PyData} {xs : List V} {us : List Value}, HasL K W H l xs → Vals xs us → PySem.W.EachIs (fun v d => ∃ x, RelV x v ∧ Has K W H d x) us l
  | [], xs, us, h, r => by
    unfold HasL at h
    subst h
    cases r
    exact .nil
  | d :: ds, xs, us, h, r => by
    unfold HasL at h
    obtain ⟨x, xr, rfl, h1, h2⟩ := h
    cases r with
    | cons r1 r2 => exact .cons ⟨x, r1, h1⟩ (each_has h2 r2)
theorem has_each {K : PySem.W.Frag} : ∀ {l : List PyData} {us : List Value}, PySem.W.EachIs (fun v d => ∃ x, RelV x v ∧ Has K W H d x) us l → ∃ xs, HasL K W H l xs ∧ Vals xs us
  | _, _, .nil => ⟨[], .nil, .nil⟩
  | _, _, .cons ⟨x, r1, h1⟩ t => by
    obtain ⟨xs, h2, r2⟩ := has_each t
    exact ⟨x :: xs, .cons h1 h2, .cons r1 r2⟩
theorem reads_each {h : Heap} : ∀ {l : List PyData} {us : List Value} {as : List Addr}, ReadsAll h us l as → PySem.W.EachIs (fun v d => ∃ as, Reads h v (id d) as) us l
  | [], us, as, r => by
    cases r
    exact .nil
  | d :: ds, us, as, r => by
    cases r with
    | cons r1 r2 => exact .cons ⟨_, r1⟩ (reads_each r2)
theorem c_sorted (hK : X.K = G.K) (hu : X.A.units + 150 < cLine) : CallR X (.builtin "sorted") (rP G pSort) := by
  intro pins s σ H xs us Q I rx h'
  obtain ⟨W, ds, hW, hv, hq⟩ := h'
  unfold pSort at hq
  split at hq
  · rename_i l
    obtain ⟨a, rfl, h1⟩ := hv.one
    obtain ⟨p, ys, e1, t1, l1, z1⟩ := h1.lst
    subst e1
    obtain ⟨al, so, pl, dp, hq⟩ := hq
    obtain ⟨its, rv, hl, _⟩ := I.list (SqL.of t1)
    have l1' := l1
    rw [← hK] at l1'
    obtain ⟨as, ra⟩ := HasL.reads I _ _ _ pl l1' rv
    rw [vals_ref1 rx]
    refine PySem.W.sorted_data (enc := id) hl.isList (each_has l1 rv) (reads_each ra) (by simpa using al) (by simpa using so) z1 (fun b hb => by have := depth_mem hb; show X.A.units + 2 + b.depth < cLine; omega) fun out ho he => ?_
    obtain ⟨ys', l2, rv2⟩ := has_each he
    obtain ⟨ep, he'⟩ := PyProof.Rows.sortedAll_at s.heap its out.toArray
    have hlen : (srtD l).length ≤ sizeLine := by
      unfold srtD
      rw [List.length_mergeSort]
      exact z1
    have hlen' : ys'.length ≤ sizeLine := by rw [l2.length]; exact hlen
    exact ⟨.ref _, upd H (s.heap.objs.size + 1) (.lst ys'), I.laid (t' := s.toks) (fun _ _ => PyProof.Rows.sortedAll_old) (Nat.le_succ _) ⟨hlen', out, ep, rv2, he'⟩, rfl, hq _ _ _ (.lst hW (I.hok.fresh (Nat.le_succ _)) hlen l2)⟩
  · exact hq.elim
variable {T : Xd} {Wx : WX} {k : Nat} {e : Expr} {es : List Expr} {g : WG} {gs : List WG} {p pos : Pos}
theorem bSorted (pl : Plc G k Wx X) (hm : X.mg "sorted" = none) (ha : Aa G T Wx X (e :: es) (g :: gs)) (hpl : ∀ pos, (backTo pos (starEach es X.env)).any (·.1) = false := by intro _; rfl) (hg : Gl X "sorted" := by rfl) (he : starEach (e :: es) X.env = (false, eval e X.env) :: starEach es X.env := by rfl) : Ee G T Wx X (.Call (.Name "sorted" p) (e :: es) [] pos) (primW pSort (seqA (g :: gs))) :=
  eB (c_sorted pl.K pl.un) pSort_mono hm ha hpl hg (by rfl) (by decide) (by decide) he
end
/-! ### sorted ints -/
def srtI (ns : List Int) : List Int := ns.mergeSort fun a b => decide (a ≤ b)
theorem srt_ints (ns : List Int) : srtD (ns.map .int) = (srtI ns).map .int := by
  unfold srtD srtI
  refine (List.map_mergeSort fun a _ b _ => ?_).symm
  show decide (a ≤ b) = !PySem.W.dataLt (.int b) (.int a)
  rw [PySem.W.dataLt_int, not_lt_int]
theorem pSort_ints {ns : List Int} {Q : R → Prop} (q : Q (.ol ((srtI ns).map .int))) : pSort [.list (ns.map .int)] Q := by
  refine ⟨(alike_ints ns).1, .inr fun d hd => ?_, plain_intA ns, Nat.le_trans (Nat.le_of_eq (depth_ints ns)) (by decide), by rw [srt_ints]; exact q⟩
  obtain ⟨a, _, rfl⟩ := List.mem_map.mp hd
  exact ⟨fun h => (nomatch h), fun xs h => (nomatch h)⟩
theorem srtI_perm (ns : List Int) : (srtI ns).Perm ns := List.mergeSort_perm _ _
theorem srtI_le (ns : List Int) : (srtI ns).Pairwise (· ≤ ·) := by
  have q := List.pairwise_mergeSort (le := fun (a b : Int) => decide (a ≤ b)) (fun a b c h1 h2 => by simp at *; omega) (fun a b => by simp; omega) ns
  exact q.imp fun h => by simpa using h
end Pd

/-! Pd26: ways: what choices they hang on; never below 0; moved by whole turns. -/
namespace Pd
open PySem L2 PyProof.Rows

theorem layGo_congr {ls : List Int} {ch ch' : List Nat} (h : ∀ i, ch.contains i = ch'.contains i) : ∀ {sk : Sk} {k : Nat} {p : Int}, layGo ls ch k p sk = layGo ls ch' k p sk
  | [], _, _ => rfl
  | it :: sk, k, p => by
    unfold layGo
    rw [h k, layGo_congr h]
theorem contains_iff {ch ch' : List Nat} {i : Nat} (h : i ∈ ch ↔ i ∈ ch') : ch.contains i = ch'.contains i := by
  rw [Bool.eq_iff_iff, List.contains_iff_mem, List.contains_iff_mem]
  exact h
theorem wayOf_congr {sk : Sk} {ls : List Int} {ch ch' : List Nat} {j g : Nat} (h : ∀ c, c ≠ j → (c ∈ ch ↔ c ∈ ch')) : wayOf sk ls ch j g = wayOf sk ls ch' j g := by
  unfold wayOf lay
  rw [layGo_congr fun i => contains_iff (i := i) ?_]
  rw [List.mem_filter, List.mem_filter]
  constructor
  · rintro ⟨a, b⟩
    exact ⟨(h i (of_decide_eq_true b)).mp a, b⟩
  · rintro ⟨a, b⟩
    exact ⟨(h i (of_decide_eq_true b)).mpr a, b⟩
section
variable {sk : Sk} {ls : List Int} {ch : List Nat}
theorem bgn_le (hs : SkOk sk) (hl : ∀ i, 0 ≤ ls.getD i 0) {i : Nat} (h : i < sk.length) : bgn sk ls ch i ≤ fin sk ls ch i := by
  have g := List.getElem?_eq_getElem h
  have b := bytes_bd (p := bgn sk ls ch i) (lg := ch.contains i) (hs.2.1 _ (List.mem_of_getElem? g))
  rw [fin_at g]
  omega
theorem fin_le (hs : SkOk sk) (hl : ∀ i, 0 ≤ ls.getD i 0) {i : Nat} : ∀ {m : Nat}, i < m → m < sk.length → fin sk ls ch i ≤ bgn sk ls ch m
  | 0, h, _ => by omega
  | m + 1, h, h2 => by
    rw [bgn_next h2]
    have := hl (m + 1)
    by_cases e : i = m
    · subst e
      omega
    · have a := fin_le hs hl (i := i) (m := m) (by omega) (by omega)
      have b := bgn_le (ch := ch) hs hl (i := m) (by omega)
      omega
theorem way_ge (hs : SkOk sk) (hl : ∀ i, 0 ≤ ls.getD i 0) {j g : Nat} {b l : Int} (hj : sk[j]? = some (.jump g b l)) (hg : sk[g]? = some .label) : 0 ≤ wayOf sk ls ch j g ∧ (g < j → b ≤ wayOf sk ls ch j g) := by
  have lj := lt_of_get hj
  have lg := lt_of_get hg
  have nj : (ch.filter fun c => decide (c ≠ j)).contains j = false := by
    rw [Bool.eq_false_iff]
    intro h
    have := (List.mem_filter.mp (List.contains_iff_mem.mp h)).2
    simp at this
  have fj := fin_at (ls := ls) (ch := ch.filter fun c => decide (c ≠ j)) hj
  rw [nj] at fj
  have fj : fin sk ls (ch.filter fun c => decide (c ≠ j)) j = bgn sk ls (ch.filter fun c => decide (c ≠ j)) j + b := fj
  have b0 : ItOk sk.length (.jump g b l) := hs.2.1 _ (List.mem_of_getElem? hj)
  have b1 := b0.2.1
  unfold wayOf wayB
  unfold fin at fj
  split
  · have q := fin_le (ch := ch.filter fun c => decide (c ≠ j)) hs hl (i := j) (m := g) (by omega) lg
    unfold fin at q
    unfold bgn at q
    exact ⟨by omega, fun h => by omega⟩
  · have q : bgn sk ls (ch.filter fun c => decide (c ≠ j)) g ≤ bgn sk ls (ch.filter fun c => decide (c ≠ j)) j := by
      by_cases e : g = j
      · rw [e]
        exact Int.le_refl _
      · exact Int.le_trans (bgn_le hs hl lg) (fin_le hs hl (by omega) lj)
    unfold bgn at q fj
    exact ⟨by omega, fun h => by omega⟩
/-- moved by whole turns -/
theorem bytes_moved {n : Nat} {it : It} {p t : Int} {lg : Bool} (h : ItOk n it) : bytesAt it (p + 64 * t) lg = bytesAt it p lg := by
  cases it with
  | label => rfl
  | jump g b l => rfl
  | fill m =>
    have h : Pow m := h
    show (-(p + 64 * t)) % m = (-p) % m
    unfold Pow at h
    rcases h with rfl | rfl | rfl | rfl | rfl | rfl <;> omega
theorem bgn_moved {ls' : List Int} {t : Int} (hs : SkOk sk) (h0 : ls'.getD 0 0 = ls.getD 0 0 + 64 * t) (h1 : ∀ i, 0 < i → i < sk.length → ls'.getD i 0 = ls.getD i 0) : ∀ i, i < sk.length → bgn sk ls' ch i = bgn sk ls ch i + 64 * t ∧ fin sk ls' ch i = fin sk ls ch i + 64 * t
  | 0, h => by
    have g := List.getElem?_eq_getElem h
    have e : bgn sk ls' ch 0 = bgn sk ls ch 0 + 64 * t := by rw [bgn_0 h, bgn_0 h, h0]
    refine ⟨e, ?_⟩
    rw [fin_at g, fin_at g, e, bytes_moved (hs.2.1 _ (List.mem_of_getElem? g))]
    omega
  | i + 1, h => by
    have g := List.getElem?_eq_getElem h
    have q := bgn_moved hs h0 h1 i (by omega)
    have e : bgn sk ls' ch (i + 1) = bgn sk ls ch (i + 1) + 64 * t := by
      rw [bgn_next h, bgn_next h, q.2, h1 (i + 1) (by omega) h]
      omega
    refine ⟨e, ?_⟩
    rw [fin_at g, fin_at g, e, bytes_moved (hs.2.1 _ (List.mem_of_getElem? g))]
    omega
theorem way_moved {ls' : List Int} {t : Int} {j g : Nat} (hs : SkOk sk) (h0 : ls'.getD 0 0 = ls.getD 0 0 + 64 * t) (h1 : ∀ i, 0 < i → i < sk.length → ls'.getD i 0 = ls.getD i 0) (hj : j < sk.length) (hg : g < sk.length) : wayOf sk ls' ch j g = wayOf sk ls ch j g := by
  have a := bgn_moved (ch := ch.filter fun c => decide (c ≠ j)) hs h0 h1 j hj
  have b := bgn_moved (ch := ch.filter fun c => decide (c ≠ j)) hs h0 h1 g hg
  unfold bgn fin at a b
  unfold wayOf wayB
  split <;> omega
end
theorem dInts_map (L : List Nat) : dInts L = (L.map fun n : Nat => (n : Int)).map PyData.int := by
  unfold dInts
  rw [List.map_map]
  rfl
theorem srt_nats (L : List Nat) : ∃ L' : List Nat, L'.Perm L ∧ (srtI (L.map fun n : Nat => (n : Int))).map PyData.int = dInts L' := by
  refine ⟨(srtI (L.map fun n : Nat => (n : Int))).map Int.toNat, ?_, ?_⟩
  · have q := (srtI_perm (L.map fun n : Nat => (n : Int))).map Int.toNat
    rw [List.map_map] at q
    have e : L.map (Int.toNat ∘ fun n : Nat => (n : Int)) = L := by
      rw [show (Int.toNat ∘ fun n : Nat => (n : Int)) = id from funext fun n => Int.toNat_natCast n, List.map_id]
    rw [e] at q
    exact q
  · have e : ((srtI (L.map fun n : Nat => (n : Int))).map Int.toNat).map (fun n : Nat => (n : Int)) = srtI (L.map fun n : Nat => (n : Int)) := by
      rw [List.map_map]
      conv => rhs; rw [← List.map_id (srtI (L.map fun n : Nat => (n : Int)))]
      refine List.map_congr_left fun x hx => ?_
      obtain ⟨n, _, rfl⟩ := List.mem_map.mp ((srtI_perm (L.map fun n : Nat => (n : Int))).mem_iff.mp hx)
      rfl
    rw [dInts_map, e]
theorem pSort_nats {L : List Nat} {Q : R → Prop} (q : ∀ L' : List Nat, L'.Perm L → Q (.ol (dInts L'))) : pSort [.list (dInts L)] Q := by
  rw [dInts_map]
  refine pSort_ints ?_
  obtain ⟨L', h1, h2⟩ := srt_nats L
  rw [h2]
  exact q L' h1
theorem pSort_app {F : List Nat} (more : List Nat) {Q : R → Prop} (q : ∀ L' : List Nat, L'.Perm (F ++ more) → Q (.ol (dInts L'))) : pSort [.list (dInts F ++ dInts more)] Q := by
  have e : dInts F ++ dInts more = dInts (F ++ more) := by
    unfold dInts
    rw [List.map_append]
  rw [e]
  exact pSort_nats q
theorem dNums_nice {ls : List Int} (h : ∀ x ∈ ls, 0 ≤ x ∧ x ≤ 1000000000) (hl : ls.length ≤ 100) : Nice (dNums ls) 1 4200 := by
  refine (Nice.tup (NiceA.all (l := ls.map .int) (D := 0) (W := 41) fun d hd => ?_)).le (Nat.le_refl _) (by rw [List.length_map]; omega)
  obtain ⟨x, hx, rfl⟩ := List.mem_map.mp hd
  have := h x hx
  exact .int (by omega) (by omega)
theorem dInts_nice {ch : List Nat} (h : ∀ c ∈ ch, c < 1000) (hl : ch.length ≤ 100) : Nice (.tuple (dInts ch)) 1 4200 := by
  refine (Nice.tup (NiceA.all (l := dInts ch) (D := 0) (W := 41) fun d hd => ?_)).le (Nat.le_refl _) (by unfold dInts; rw [List.length_map]; omega)
  obtain ⟨x, hx, rfl⟩ := List.mem_map.mp hd
  have := h x hx
  exact .int (by omega) (by omega)
theorem three_nice {sk : Sk} {ls : List Int} {ch : List Nat} (hs : SkOk sk) (h : ∀ x ∈ ls, 0 ≤ x ∧ x ≤ 1000000000) (hl : ls.length ≤ 100) (h2 : ∀ c ∈ ch, c < 1000) (hl2 : ch.length ≤ 100) : Nice (.list [dSk sk, dNums ls, .tuple (dInts ch)]) 3 100000 := by
  have nl : NiceA [] 2 0 := ⟨rfl, rfl, rfl, Nat.zero_le _, Nat.le_refl _⟩
  exact (Nice.lst (.cons (dSk_nice hs) (.cons ((dNums_nice h hl).le (by decide) (Nat.le_refl _)) (.cons ((dInts_nice h2 hl2).le (by decide) (Nat.le_refl _)) nl)))).le (by decide) (by omega)
end Pd

/-! Pd27: is, isinstance, displays with stars, zip. -/
namespace Pd
open PySem L2 PyProof.Rows

/-! ### x is True -/
def pIsB : PwP := fun ds Q => ∃ a b, ds = [.bool a, .bool b] ∧ Q (.sh (.bool (decide (a = b))))
def pNotB : PwP := fun ds Q => ∃ a b, ds = [.bool a, .bool b] ∧ Q (.sh (.bool (!decide (a = b))))
theorem pIsB_mono : MonoP pIsB := fun ds Q Q' h ⟨a, b, e, q⟩ => ⟨a, b, e, h _ q⟩
theorem pNotB_mono : MonoP pNotB := fun ds Q Q' h ⟨a, b, e, q⟩ => ⟨a, b, e, h _ q⟩
section
variable {G : Wd} {T : Xd} {Wx : WX} {X : Cx} {k : Nat}
theorem cIsB (pl : Plc G k Wx X) : Co G X .Is pIsB := ⟨pIsB_mono, by
  intro pins s σ H x y v u Q I rx ry h'
  obtain ⟨W, ds, hW, hv, a, b, rfl, hq⟩ := h'
  obtain ⟨p, q, e, h1, h2⟩ := hv.two
  cases e
  exact op_is_bl pins s σ H x y v u Q I rx ry ⟨a, b, h1.bool, h2.bool, hq _ _ _ .bool⟩⟩
theorem cNotB (pl : Plc G k Wx X) : Co G X .IsNot pNotB := ⟨pNotB_mono, by
  intro pins s σ H x y v u Q I rx ry h'
  obtain ⟨W, ds, hW, hv, a, b, rfl, hq⟩ := h'
  obtain ⟨p, q, e, h1, h2⟩ := hv.two
  cases e
  exact op_isnot_bl pins s σ H x y v u Q I rx ry ⟨a, b, h1.bool, h2.bool, hq _ _ _ .bool⟩⟩
end

/-! ### isinstance -/
def tyName : PyData → String
  | .none => "NoneType"
  | .bool _ => "bool"
  | .int _ => "int"
  | .str _ => "str"
  | .list _ => "list"
  | .tuple _ => "tuple"
  | .dict _ => "dict"
def noDict : PyData → Bool
  | .dict _ => false
  | _ => true
structure IsaF (T : String) (f : PyData → Bool) : Prop where
  k : ∀ d, kitB (tyName d) T = some (f d)
def isaTup : PyData → Bool
  | .tuple _ => true
  | _ => false
def isaLst : PyData → Bool
  | .list _ => true
  | _ => false
def isaInt : PyData → Bool
  | .int _ => true
  | .bool _ => true
  | _ => false
def isaBool : PyData → Bool
  | .bool _ => true
  | _ => false
def isaStr : PyData → Bool
  | .str _ => true
  | _ => false
theorem isaTupF : IsaF "tuple" isaTup := ⟨fun d => by
  cases d with
  | none => exact (by decide +kernel : kitB "NoneType" "tuple" = some false)
  | bool _ => exact (by decide +kernel : kitB "bool" "tuple" = some false)
  | int _ => exact (by decide +kernel : kitB "int" "tuple" = some false)
  | str _ => exact (by decide +kernel : kitB "str" "tuple" = some false)
  | list _ => exact (by decide +kernel : kitB "list" "tuple" = some false)
  | tuple _ => exact (by decide +kernel : kitB "tuple" "tuple" = some true)
  | dict _ => exact (by decide +kernel : kitB "dict" "tuple" = some false)⟩
theorem isaLstF : IsaF "list" isaLst := ⟨fun d => by
  cases d with
  | none => exact (by decide +kernel : kitB "NoneType" "list" = some false)
  | bool _ => exact (by decide +kernel : kitB "bool" "list" = some false)
  | int _ => exact (by decide +kernel : kitB "int" "list" = some false)
  | str _ => exact (by decide +kernel : kitB "str" "list" = some false)
  | list _ => exact (by decide +kernel : kitB "list" "list" = some true)
  | tuple _ => exact (by decide +kernel : kitB "tuple" "list" = some false)
  | dict _ => exact (by decide +kernel : kitB "dict" "list" = some false)⟩
theorem isaIntF : IsaF "int" isaInt := ⟨fun d => by
  cases d with
  | none => exact (by decide +kernel : kitB "NoneType" "int" = some false)
  | bool _ => exact (by decide +kernel : kitB "bool" "int" = some true)
  | int _ => exact (by decide +kernel : kitB "int" "int" = some true)
  | str _ => exact (by decide +kernel : kitB "str" "int" = some false)
  | list _ => exact (by decide +kernel : kitB "list" "int" = some false)
  | tuple _ => exact (by decide +kernel : kitB "tuple" "int" = some false)
  | dict _ => exact (by decide +kernel : kitB "dict" "int" = some false)⟩
theorem isaBoolF : IsaF "bool" isaBool := ⟨fun d => by
  cases d with
  | none => exact (by decide +kernel : kitB "NoneType" "bool" = some false)
  | bool _ => exact (by decide +kernel : kitB "bool" "bool" = some true)
  | int _ => exact (by decide +kernel : kitB "int" "bool" = some false)
  | str _ => exact (by decide +kernel : kitB "str" "bool" = some false)
  | list _ => exact (by decide +kernel : kitB "list" "bool" = some false)
  | tuple _ => exact (by decide +kernel : kitB "tuple" "bool" = some false)
  | dict _ => exact (by decide +kernel : kitB "dict" "bool" = some false)⟩
theorem isaStrF : IsaF "str" isaStr := ⟨fun d => by
  cases d with
  | none => exact (by decide +kernel : kitB "NoneType" "str" = some false)
  | bool _ => exact (by decide +kernel : kitB "bool" "str" = some false)
  | int _ => exact (by decide +kernel : kitB "int" "str" = some false)
  | str _ => exact (by decide +kernel : kitB "str" "str" = some true)
  | list _ => exact (by decide +kernel : kitB "list" "str" = some false)
  | tuple _ => exact (by decide +kernel : kitB "tuple" "str" = some false)
  | dict _ => exact (by decide +kernel : kitB "dict" "str" = some false)⟩
def pIsa (f : PyData → Bool) : PwP := fun ds Q => ∃ d, ds = [d] ∧ noDict d = true ∧ Q (.sh (.bool (f d)))
theorem pIsa_mono {f : PyData → Bool} : MonoP (pIsa f) := fun ds Q Q' h ⟨d, e, n, q⟩ => ⟨d, e, n, h _ q⟩
section
variable {G : Wd} {T : Xd} {Wx : WX} {X : Cx} {k : Nat} {W : Av} {H : Hp}
theorem SqL.tyx {K : PySem.W.Frag} {a : Addr} {xs : List V} (h : SqL K H a xs) : TyX K H (.ref a) (.type "list") := by
  rcases h with (h | ⟨o, h⟩) | ⟨o, its, n, h, c, _⟩
  · exact .base (.lst h)
  · exact .base (.frz h)
  · exact .kList h c
theorem Vw.tyx {d : PyData} {v : V} (n : noDict d = true) (h : Vw G.K W H d v) : TyX G.K H v (.type (tyName d)) := by
  cases d with
  | none => rw [h.non]; exact .base .non
  | bool b => rw [h.bool]; exact .base (.bl _)
  | int b => rw [h.int]; exact .base (.int _)
  | str b => rw [h.str]; exact .base (.str _)
  | list l => obtain ⟨a, xs, e, h1, _⟩ := h.lst; rw [e]; exact .base (.lst h1)
  | tuple l => obtain ⟨a, xs, e, h1, _⟩ := h.tup; rw [e]; exact .base (.tup h1)
  | dict l => cases n
theorem eIsa {f : PyData → Bool} {Tn : String} {x : Str} {e : Expr} {p p2 pos : Pos} {g : WG} (F : IsaF Tn f) (pl : Plc G k Wx X) (hm : X.mg "isinstance" = none) (hm2 : X.mg x = none) (h : Gg G T Wx X e g) (hv : bootBuiltins x = some (.type Tn) := by rfl) (hg : Gl X "isinstance" := by rfl) (hg2 : Gl X x := by rfl) (hn : x ≠ "__name__" := by decide) (hd : (x == ("__debug__" : Str)) = false := by decide)
    (s1 : starEach [e, .Name x p2] X.env = (false, eval e X.env) :: starEach [.Name x p2] X.env := by rfl) (s2 : starEach [.Name x p2] X.env = (false, eval (.Name x p2) X.env) :: starEach [] X.env := by rfl) (hpl : ∀ pos, (backTo pos (starEach [.Name x p2] X.env)).any (·.1) = false := by intro _; rfl) :
    Ee G T Wx X (.Call (.Name "isinstance" p) [e, .Name x p2] [] pos) (primW (pIsa f) (seqA [g])) := by
  refine ⟨mono1 pIsa_mono h.m, ⟨fun pins s σ H Q I h' => ?_⟩⟩
  obtain ⟨Ha, E, Fa, ρ, F0, xq, S, xp, q⟩ := h'
  refine (pe_callB call_isi hg hm (by rfl) (pa_cons h.p (pa_cons (pe_bltn hg2 hm2 hv (v := .ty Tn) rfl hn hd) pa_nil s2) s1) (by decide) (by decide) s1 (hpl _)).run pins s σ H Q I ?_
  refine tG.mk h.m S xp q fun av ρ1 v H1 F1 f1 q rs => ?_
  obtain ⟨ds, e1, d, rfl, nd, q⟩ := q
  have RA := rs.one S
  obtain ⟨v', ev, hv'⟩ := (RA.vw e1).one
  cases ev
  refine ⟨v, .ty Tn, .type (tyName d), .type Tn, f d, rfl, .ty Tn, ?_, ?_, q _ _ _ _ (New.rs RA .bool)⟩
  · rw [pl.K]; exact hv'.tyx nd
  · exact kit_ty (F.k d)
end

/-! ### displays with stars -/
def sqOf : R → Option (List PyData)
  | .sh (.tuple l) => some l
  | .sh (.list l) => some l
  | .ol l => some l
  | _ => none
def seqX : List (Bool × WE) → List Sl → XQ → (List PyData → List Sl → Prop) → Prop
  | [], ρ, xq, Q => Q [] ρ
  | (false, w) :: r, ρ, xq, Q => w ρ xq fun v ρ1 => ∃ d, v.d = some d ∧ seqX r ρ1 xq fun ds ρ2 => Q (d :: ds) ρ2
  | (true, w) :: r, ρ, xq, Q => w ρ xq fun v ρ1 => ∃ l, sqOf v = some l ∧ seqX r ρ1 xq fun ds ρ2 => Q (l ++ ds) ρ2
theorem seqX_mono : ∀ {gs : List (Bool × WE)}, (∀ g ∈ gs, MonoE g.2) → ∀ ρ xq Q Q', (∀ ds ρ', Q ds ρ' → Q' ds ρ') → seqX gs ρ xq Q → seqX gs ρ xq Q'
  | [], _, ρ, xq, Q, Q', h, q => h _ _ q
  | (false, w) :: r, m, ρ, xq, Q, Q', h, q => m (false, w) (by simp) _ _ _ _ (fun v ρ1 ⟨d, e, q⟩ => ⟨d, e, seqX_mono (fun g hg => m g (by simp [hg])) _ _ _ _ (fun ds ρ2 q => h _ _ q) q⟩) q
  | (true, w) :: r, m, ρ, xq, Q, Q', h, q => m (true, w) (by simp) _ _ _ _ (fun v ρ1 ⟨d, e, q⟩ => ⟨d, e, seqX_mono (fun g hg => m g (by simp [hg])) _ _ _ _ (fun ds ρ2 q => h _ _ q) q⟩) q
def tXs (G : Wd) (T : Xd) (Wx : WX) (gs : List (Bool × WE)) : TA := fun σ H Q => ∃ Ha E Fa ρ F xq, St G Ha E Fa σ H ρ F ∧ XP G T Ha E Fa Wx H F xq ∧
  seqX gs ρ xq fun ds ρ' => ∀ vs H' F', St G Ha E Fa σ H' ρ' F' → Fr H F H' F' → HasL G.K (Vo E F') H' ds vs → Q vs H'
structure Xx (G : Wd) (T : Xd) (Wx : WX) (X : Cx) (es : List Expr) (gs : List (Bool × WE)) : Prop where
  m : ∀ g ∈ gs, MonoE g.2
  p : PA X es (tXs G T Wx gs)
section
variable {G : Wd} {T : Xd} {Wx : WX} {X : Cx} {k : Nat} {e : Expr} {es : List Expr} {pos : Pos}
theorem xN : Xx G T Wx X [] [] := ⟨fun g hg => (by cases hg), ⟨fun pos pins s σ H Q I h => by
  obtain ⟨Ha, E, Fa, ρ, F, xq, S, xp, h⟩ := h
  exact (pa_nil (X := X)).run pos pins s σ H Q I (h [] H F S (.refl _ _) .nil)⟩⟩
theorem xC {w : WE} {gs : List (Bool × WE)} (h : Ee G T Wx X e w) (hr : Xx G T Wx X es gs) (hs : starEach (e :: es) X.env = (false, eval e X.env) :: starEach es X.env := by rfl) : Xx G T Wx X (e :: es) ((false, w) :: gs) := by
  refine ⟨fun g hg => ?_, ⟨fun pos pins s σ H Q I h' => ?_⟩⟩
  · rcases List.mem_cons.mp hg with rfl | hg
    · exact h.m
    · exact hr.m g hg
  obtain ⟨Ha, E, Fa, ρ, F, xq, S, xp, h'⟩ := h'
  refine (pa_cons h.p hr.p hs).run pos pins s σ H Q I ?_
  refine tE.mk h.m S xp h' fun r ρ1 v H1 F1 f q rs => ?_
  obtain ⟨d, ed, q⟩ := q
  have hd := rs.has S ed
  exact ⟨Ha, E, Fa, ρ1, F1, xq, rs.st.less fun a h => .inl h, xp.step rs.fr, seqX_mono hr.m _ _ _ _ (fun ds ρ2 q2 vs H2 F2 S2 fr2 hl => q2 (v :: vs) H2 F2 S2 (rs.fr.trans fr2) (.cons (Has.mv (fr2.mv E) _ _ hd) hl)) q⟩
theorem sqOf_has {E : Av} {Fa F F1 : Fo} {Ha H H1 : Hp} {σ : L2.St} {ρ ρ1 : List Sl} {r : R} {v : V} {f : List Addr} {l : List PyData} (S : St G Ha E Fa σ H ρ F) (rs : Rs G Ha E Fa σ H F (.rv r) ρ1 v H1 F1 f) (e : sqOf r = some l) :
    ∃ a xs, v = .ref a ∧ (SqT G.K H1 a xs ∨ SqL G.K H1 a xs) ∧ HasL G.K (Vo E F1) H1 l xs := by
  have go : ∀ d, r.d = some d → Has G.K (Vo E F1) H1 d v := fun d q => rs.has S q
  cases r with
  | sh d =>
    cases d with
    | list l =>
      cases e
      have := go _ rfl
      unfold Has at this
      obtain ⟨z, a, xs, rfl, h1, h2⟩ := this
      exact ⟨a, xs, rfl, .inr h1.sq, h2⟩
    | tuple l =>
      cases e
      have := go _ rfl
      unfold Has at this
      obtain ⟨z, a, xs, rfl, h1, h2⟩ := this
      exact ⟨a, xs, rfl, .inl h1.sq, h2⟩
    | _ => cases e
  | ol l =>
    cases e
    have := go _ rfl
    unfold Has at this
    obtain ⟨z, a, xs, rfl, h1, h2⟩ := this
    exact ⟨a, xs, rfl, .inr h1.sq, h2⟩
  | _ => cases e
theorem xS {w : WE} {gs : List (Bool × WE)} {p : Pos} (pl : Plc G k Wx X) (h : Ee G T Wx X e w) (hr : Xx G T Wx X es gs) (hs : starEach (.Starred e p :: es) X.env = (true, eval e X.env) :: starEach es X.env := by rfl) : Xx G T Wx X (.Starred e p :: es) ((true, w) :: gs) := by
  refine ⟨fun g hg => ?_, ⟨fun pos pins s σ H Q I h' => ?_⟩⟩
  · rcases List.mem_cons.mp hg with rfl | hg
    · exact h.m
    · exact hr.m g hg
  obtain ⟨Ha, E, Fa, ρ, F, xq, S, xp, h'⟩ := h'
  refine (StX.pa_star h.p hr.p hs).run pos pins s σ H Q I ?_
  refine tE.mk h.m S xp h' fun r ρ1 v H1 F1 f q rs => ?_
  obtain ⟨l, el, q⟩ := q
  obtain ⟨a, xs, rfl, hq, hl⟩ := sqOf_has S rs el
  refine ⟨a, xs, rfl, by rw [pl.K]; exact hq, ?_⟩
  exact ⟨Ha, E, Fa, ρ1, F1, xq, rs.st.less fun a h => .inl h, xp.step rs.fr, seqX_mono hr.m _ _ _ _ (fun ds ρ2 q2 vs H2 F2 S2 fr2 hl2 => q2 (xs ++ vs) H2 F2 S2 (rs.fr.trans fr2) (.append (HasL.mv (fr2.mv E) _ _ hl) hl2)) q⟩
def tupX (gs : List (Bool × WE)) : WE := fun ρ xq Q => seqX gs ρ xq fun ds ρ' => ds.length ≤ sizeLine ∧ Q (.sh (.tuple ds)) ρ'
def lstX (gs : List (Bool × WE)) : WE := fun ρ xq Q => seqX gs ρ xq fun ds ρ' => ds.length ≤ sizeLine ∧ Q (.ol ds) ρ'
theorem eTupX {gs : List (Bool × WE)} {j : Nat} (h : Xx G T Wx X es gs) : Ee G T Wx X (.Tuple es j pos) (tupX gs) := by
  refine ⟨fun ρ xq Q Q' i q => seqX_mono h.m _ _ _ _ (fun ds ρ' q => ⟨q.1, i _ _ q.2⟩) q, ⟨fun pins s σ H Q I h' => ?_⟩⟩
  obtain ⟨Ha, E, Fa, ρ, F, xq, S, xp, q⟩ := h'
  refine (pe_tup h.p).run pins s σ H Q I ?_
  refine ⟨Ha, E, Fa, ρ, F, xq, S, xp, seqX_mono h.m _ _ _ _ (fun ds ρ' q vs H' F' S' fr hl => ?_) q⟩
  refine ⟨by rw [hl.length]; exact q.1, fun p hp => ?_⟩
  have RA : RsA G Ha E Fa σ H F [] ρ' [] H' F' [] := ⟨S'.orNil, fr, .nil, fun a h => (by cases h), fun a h => (by cases h)⟩
  have hl' : HasL G.K (Vo (orF E []) F') H' ds vs := HasL.mv ⟨fun _ _ h _ => h, fun a h => .inl (h.imp (fun h => h.elim id fun h => (by cases h)) id)⟩ _ _ hl
  exact q.2 (.ref p) _ F' [] (New.rs RA (.tup (fun a => RA.st.vo) hp q.1 hl'))
theorem eLstX {gs : List (Bool × WE)} (h : Xx G T Wx X es gs) : Ee G T Wx X (.List es pos) (lstX gs) := by
  refine ⟨fun ρ xq Q Q' i q => seqX_mono h.m _ _ _ _ (fun ds ρ' q => ⟨q.1, i _ _ q.2⟩) q, ⟨fun pins s σ H Q I h' => ?_⟩⟩
  obtain ⟨Ha, E, Fa, ρ, F, xq, S, xp, q⟩ := h'
  refine (pe_lst h.p).run pins s σ H Q I ?_
  refine ⟨Ha, E, Fa, ρ, F, xq, S, xp, seqX_mono h.m _ _ _ _ (fun ds ρ' q vs H' F' S' fr hl => ?_) q⟩
  refine ⟨by rw [hl.length]; exact q.1, fun p hp => ?_⟩
  have RA : RsA G Ha E Fa σ H F [] ρ' [] H' F' [] := ⟨S'.orNil, fr, .nil, fun a h => (by cases h), fun a h => (by cases h)⟩
  have hl' : HasL G.K (Vo (orF E []) F') H' ds vs := HasL.mv ⟨fun _ _ h _ => h, fun a h => .inl (h.imp (fun h => h.elim id fun h => (by cases h)) id)⟩ _ _ hl
  exact q.2 (.ref p) _ F' [p] (New.rs RA (.lst (fun a => RA.st.vo) hp q.1 hl'))
end
end Pd

/-! Pd28: zip of lists and tuples. -/
namespace Pd
open PySem L2 PyProof.Rows

def SqB (K : PySem.W.Frag) (b : Bool) (H : Hp) (a : Addr) (xs : List V) : Prop := match b with
  | true => SqL K H a xs
  | false => SqT K H a xs
def AtB (b : Bool) (h : Heap) (a : Addr) (its : Array Value) : Prop := match b with
  | true => h.IsList a its
  | false => h.IsTuple a its
def ItB (b : Bool) (h : Heap) (it a : Addr) (i : Nat) : Prop := match b with
  | true => h.IsListIter it a i
  | false => h.IsTupleIter it a i
def itO (b : Bool) (a : Addr) : Obj := match b with
  | true => { cls := .type "list_iterator", data := .fields #[.ref a, .int 0 0] }
  | false => { cls := .type "tuple_iterator", data := .fields #[.ref a, .int 0 0] }
theorem drawsB {prog : Program} {w : World} {A : Around} (hh : A.handled = none) (b : Bool) (it l : Addr) (hne : l ≠ it) (items : Array Value) :
    Draws prog w A it [it, l] items.size (fun i v => items[i]? = some v) (fun i h => ItB b h it l i ∧ AtB b h l items) := by
  cases b with
  | true => exact Draws.list hh it l hne items
  | false => exact Draws.tuple hh it l hne items
theorem beginsB (b : Bool) (a : Addr) (items : Array Value) : Begins (.ref a) (itO b a) fun h => AtB b h a items := by
  cases b with
  | true => exact begins_list a items
  | false => exact begins_tuple a items
theorem itB_first {b : Bool} {h : Heap} {it a : Addr} (e : h.get? it = some (itO b a)) : ItB b h it a 0 := by
  cases b with
  | true => exact ⟨_, e, rfl, rfl⟩
  | false => exact ⟨_, e, rfl, rfl⟩
theorem ItB.ob {b : Bool} {h : Heap} {it a : Addr} {i : Nat} (e : ItB b h it a i) : ∃ o fs, h.get? it = some o ∧ o.data = .fields fs := by
  cases b with
  | true =>
    obtain ⟨o, h1, h2, h3⟩ := e
    exact ⟨o, _, h1, h3⟩
  | false =>
    obtain ⟨o, h1, h2, h3⟩ := e
    exact ⟨o, _, h1, h3⟩
theorem ItB.at {b : Bool} {h h' : Heap} {it a : Addr} {i : Nat} (e : ItB b h it a i) (k : ∀ o, h.get? it = some o → h'.get? it = some o) : ItB b h' it a i := by
  cases b with
  | true => exact Heap.IsListIter.at e k
  | false => exact Heap.IsTupleIter.at e k
theorem AtB.ob {b : Bool} {h : Heap} {a : Addr} {its : Array Value} (e : AtB b h a its) : ∃ o, h.get? a = some o := by
  cases b with
  | true => obtain ⟨o, h1, _⟩ := e; exact ⟨o, h1⟩
  | false => obtain ⟨o, h1, _⟩ := e; exact ⟨o, h1⟩
section
variable {X : Cx} {pins : List (Addr × Obj)} {σ : L2.St} {H : Hp} {s : Shared}
theorem seqB_ {b : Bool} {a : Addr} {xs : List V} (I : Inv X pins σ H s) (h : SqB X.K b H a xs) : ∃ its, Vals xs its ∧ AtB b s.heap a its.toArray := by
  cases b with
  | true =>
    obtain ⟨its, rv, p, _⟩ := I.list h
    exact ⟨its, rv, p.isList⟩
  | false =>
    obtain ⟨its, rv, p, _⟩ := I.tuple h
    exact ⟨its, rv, p⟩
theorem injB_ {b : Bool} {a : Addr} {xs ys : List V} (I : Inv X pins σ H s) (h : SqB X.K b H a xs) (h2 : SqB X.K b H a ys) : xs = ys := by
  cases b with
  | true => exact I.list_inj h h2
  | false => exact I.tuple_inj h h2
end
/-- the things at a and b, their items in new pairs -/
def ItZB (K : PySem.W.Frag) (p q : Bool) (a b : Addr) : L2.It :=
  ⟨fun i H => ∃ (xs ys : List V) (x y : V), SqB K p H a xs ∧ SqB K q H b ys ∧ xs[i]? = some x ∧ ys[i]? = some y,
    fun i H v H' => ∃ T x y, v = .ref T ∧ H T = none ∧ H' = upd H T (.tup [x, y]) ∧ (∀ xs, SqB K p H a xs → xs[i]? = some x) ∧ ∀ ys, SqB K q H b ys → ys[i]? = some y,
    fun i H => ∃ xs ys : List V, SqB K p H a xs ∧ SqB K q H b ys ∧ i ≤ xs.length ∧ i ≤ ys.length ∧ (i = xs.length ∨ i = ys.length)⟩
theorem turn_zipB {P : Program} {w : World} {K : PySem.W.Frag} {elts : List Expr} {kk : Nat} {tpos : Pos} {p q : Bool} {a b z TI TO i1 i2 : Addr} (D : ZipSep2 z TI TO i1 i2 [i1, a] [i2, b]) (n1 : a ≠ i1) (n2 : b ≠ i2) :
    Turn P w K (.Tuple elts kk tpos) (ItZB K p q a b) [z, TI, TO, i1, i2] z (fun i h => IsZip h z TI TO .none ∧ IsTupOf2 h TI (.ref i1) (.ref i2) ∧ (∃ x y, IsTupOf2 h TO x y) ∧ ItB p h i1 a i ∧ ItB q h i2 b i) where
  mem := by simp
  obj := fun i h st c hc => by
    obtain ⟨hz, hTI, ⟨x, y, hTO⟩, h1, h2⟩ := st
    obtain ⟨o1, f1, e1, d1⟩ := h1.ob
    obtain ⟨o2, f2, e2, d2⟩ := h2.ob
    have e' : c = z ∨ c = TI ∨ c = TO ∨ c = i1 ∨ c = i2 := by simpa using hc
    rcases e' with r | r | r | r | r
    · rw [r]; exact ⟨_, hz, fun v q => nomatch q⟩
    · rw [r]; exact ⟨_, hTI, fun v q => nomatch q⟩
    · rw [r]; exact ⟨_, hTO, fun v q => nomatch q⟩
    · rw [r]; exact ⟨o1, e1, fun v q => by rw [d1] at q; cases q⟩
    · rw [r]; exact ⟨o2, e2, fun v q => by rw [d2] at q; cases q⟩
  keep := fun i h h' st k => by
    obtain ⟨hz, hTI, ⟨x, y, hTO⟩, h1, h2⟩ := st
    exact ⟨k z (by simp) _ hz, k TI (by simp) _ hTI, ⟨x, y, k TO (by simp) _ hTO⟩, h1.at fun o q => k i1 (by simp) o q, h2.at fun o q => k i2 (by simp) o q⟩
  item := by
    intro X hP hw hK hc i pins s σ H E I hf st hg
    subst hP hw hK
    obtain ⟨hz, hTI, ⟨x0, y0, hTO⟩, h1, h2⟩ := st
    obtain ⟨xs, ys, x, y, hqx, hqy, hx, hy⟩ := hg
    obtain ⟨its, rv, p1⟩ := seqB_ I hqx
    obtain ⟨its2, rv2, p2⟩ := seqB_ I hqy
    obtain ⟨u, hu, ru⟩ := rv.get hx
    obtain ⟨u2, hu2, ru2⟩ := rv2.get hy
    have hzl : z < s.heap.objs.size := Heap.lt_size hz
    have hh : X.A.in1.handled = none := I.ok.hd hc
    have li1 : i < its.toArray.size := by have := lt_of_get hu; simpa using this
    have li2 : i < its2.toArray.size := by have := lt_of_get hu2; simpa using this
    refine wpAny_pyNext_zipD2_item D (drawsB hh p i1 a n1 its.toArray) (drawsB hh q i2 b n2 its2.toArray) hz hTI hTO ⟨h1, p1⟩ ⟨h2, p2⟩ li1 li2 fun y1 y2 h' tk e1 e2 z' TO' h1' h2' hT hsz hk => ?_
    have ey1 : y1 = u := by
      have e1 : its.toArray[i]? = some y1 := e1
      rw [show its.toArray[i]? = some u by simpa using hu] at e1
      cases e1; rfl
    have ey2 : y2 = u2 := by
      have e2 : its2.toArray[i]? = some y2 := e2
      rw [show its2.toArray[i]? = some u2 by simpa using hu2] at e2
      cases e2; rfl
    subst ey1 ey2
    refine ⟨_, rfl, wpAny_letOwnedTupleGo_zip (s := { s with heap := h', toks := tk }) z' fun h'' z'' sb => ?_⟩
    have hT2 : h''.get? s.heap.objs.size = some { cls := .type "tuple", data := .seq #[y1, y2] } := (sb.2 _ (Nat.ne_of_gt hzl)).trans hT
    have new : ObjOk X.prog X.w (upd H s.heap.objs.size (.tup [x, y])) h'' s.heap.objs.size (.tup [x, y]) :=
      ⟨by show 2 ≤ sizeLine; decide, [y1, y2], .cons ru (.cons ru2 .nil), ⟨_, hT2, rfl, _, rfl⟩⟩
    have I1 : Inv X pins σ (upd H s.heap.objs.size (.tup [x, y])) { s with heap := h'', toks := tk } :=
      I.turnedNew (t' := tk) (ch := [z, TI, TO, i1, i2]) (fun c o hb q => (sb.2 c (fun q' => hb (by simp [q']))).trans (hk c o (fun q' => hb (by simp [q'])) (fun q' => hb (by simp [q'])) (fun q' => hb (by simp [q'])) (fun q' => hb (by simp [q'])) q)) hf (Nat.le_refl _) new
    have zi1 : i1 ≠ z := fun e => D.zf1 (by rw [e]; simp)
    have zi2 : i2 ≠ z := fun e => D.zf2 (by rw [e]; simp)
    refine ⟨.ref s.heap.objs.size, _, I1, rfl, ⟨_, x, y, rfl, I.hok.fresh (Nat.le_refl _), rfl, fun l hl => by rw [injB_ I hl hqx]; exact hx, fun l hl => by rw [injB_ I hl hqy]; exact hy⟩, ⟨z'', ?_, ⟨y1, y2, ?_⟩, ?_, ?_⟩, fun c hcm => ?_⟩
    · exact (sb.2 _ D.TIz).trans (hk _ _ D.TIz D.TITO D.TIi1 D.TIi2 hTI)
    · exact (sb.2 _ D.TOz).trans TO'
    · exact h1'.1.at fun o q => (sb.2 _ zi1).trans q
    · exact h2'.1.at fun o q => (sb.2 _ zi2).trans q
    · have hlt : c < s.heap.objs.size := by
        obtain ⟨o1, f1, e1, _⟩ := h1.ob
        obtain ⟨o2, f2, e2, _⟩ := h2.ob
        have e' : c = z ∨ c = TI ∨ c = TO ∨ c = i1 ∨ c = i2 := by simpa using hcm
        rcases e' with q | q | q | q | q
        · rw [q]; exact hzl
        · rw [q]; exact Heap.lt_size hTI
        · rw [q]; exact Heap.lt_size hTO
        · rw [q]; exact Heap.lt_size e1
        · rw [q]; exact Heap.lt_size e2
      rw [upd_ne (Nat.ne_of_lt hlt)]
      exact (hf c hcm).1
  done := by
    intro X hP hw hK hc i pins s σ H E I hf st hg
    subst hP hw hK
    obtain ⟨hz, hTI, ⟨x0, y0, hTO⟩, h1, h2⟩ := st
    obtain ⟨xs, ys, hqx, hqy, l1, l2, hend⟩ := hg
    obtain ⟨its, rv, p1⟩ := seqB_ I hqx
    obtain ⟨its2, rv2, p2⟩ := seqB_ I hqy
    have hh : X.A.in1.handled = none := I.ok.hd hc
    have e1 := rv.length
    have e2 := rv2.length
    refine wpAny_pyNext_zipD2_end D (drawsB hh p i1 a n1 its.toArray) (drawsB hh q i2 b n2 its2.toArray) hz hTI hTO ⟨h1, p1⟩ ⟨h2, p2⟩ (by simp; omega) (by simp; omega) (by simp; omega) fun h' tk hk => ⟨rfl, ?_⟩
    exact I.turnedL (t' := tk) (ch := [z, TI, TO, i1, i2]) (fun c o hb q =>
      hk c o (fun q' => hb (by simp [q'])) (fun q' => hb (by simp [q'])) (fun q' => hb (by simp [q'])) (fun q' => hb (by simp [q'])) q) hf
  self := fun A i s Q E st h => wpAny_pyIter_zip st.1 h
def iZipB (K : PySem.W.Frag) (ta : TA) : TI := fun σ H R => ta σ H fun vs H1 => ∃ p q a b xs ys, vs = [.ref a, .ref b] ∧ SqB K p H1 a xs ∧ SqB K q H1 b ys ∧ R (ItZB K p q a b) H1
theorem pi_zipB {X : Cx} {e e2 : Expr} {ta : TA} {p pos tpos : Pos} {elts : List Expr} {kk : Nat} (hg : Gl X "zip") (hm : X.mg "zip" = none) (ha : PA X [e, e2] ta)
    (hs : starEach [e, e2] X.env = (false, eval e X.env) :: starEach [e2] X.env) (hpl : (backTo pos (starEach [e2] X.env)).any (·.1) = false) :
    PI X (.Tuple elts kk tpos) (.Call (.Name "zip" p) [e, e2] [] pos) (iZipB X.K ta) := by
  refine ⟨fun pins s σ H R I h => ?_⟩
  refine Call_ (ld_blt I hg hm PyProof.Rows.boot_zip (PyProof.Rows.callWith_type1 (thn (ha.run pos pins s σ H _ I h) fun us s1 ⟨vs, H1, I1, r1, q1⟩ => ?_) hs hpl))
  obtain ⟨pb, qb, a, b, xs, ys, ex, hqx, hqy, q⟩ := q1
  subst ex
  cases r1 with
  | cons r rr =>
    cases rr with
    | cons r' rr =>
      cases rr
      cases r
      cases r'
      have fresh5 : ∀ c, c ∈ [s1.heap.objs.size + 4, s1.heap.objs.size + 2, s1.heap.objs.size + 3, s1.heap.objs.size, s1.heap.objs.size + 1] → FpOk X pins H1 c := fun c hcm => by
        have e' : c = s1.heap.objs.size + 4 ∨ c = s1.heap.objs.size + 2 ∨ c = s1.heap.objs.size + 3 ∨ c = s1.heap.objs.size ∨ c = s1.heap.objs.size + 1 := by simpa using hcm
        have hle : s1.heap.objs.size ≤ c := by
          rcases e' with z | z | z | z | z
          · rw [z]; exact Nat.le_add_right _ _
          · rw [z]; exact Nat.le_add_right _ _
          · rw [z]; exact Nat.le_add_right _ _
          · rw [z]; exact Nat.le_refl _
          · rw [z]; exact Nat.le_add_right _ _
        exact I1.fpOk hle (I1.hok.fresh hle)
      obtain ⟨its, rv, p1⟩ := seqB_ I1 hqx
      obtain ⟨its2, rv2, p2⟩ := seqB_ I1 hqy
      obtain ⟨o1, ho1⟩ := p1.ob
      obtain ⟨o2, ho2⟩ := p2.ob
      have la := Heap.lt_size ho1
      have lb := Heap.lt_size ho2
      refine zip_begins2 (beginsB pb a its.toArray) (beginsB qb b its2.toArray) p1 p2 fun h' hz hTI hTO h1 h2 hsz hk => wpAny_pyIter_zip hz ?_
      have I2 : Inv X pins σ H1 { s1 with heap := h' } := I1.kept (t' := s1.toks) hk
      exact ⟨s1.heap.objs.size + 4, [s1.heap.objs.size + 4, s1.heap.objs.size + 2, s1.heap.objs.size + 3, s1.heap.objs.size, s1.heap.objs.size + 1], _, _, H1, rfl, I2,
        turn_zipB (zip_sep2 (N := s1.heap.objs.size) (fp1 := [a]) (fp2 := [b]) (fun c hc => by rw [List.mem_singleton.mp hc]; exact la) (fun c hc => by rw [List.mem_singleton.mp hc]; exact lb)) (Nat.ne_of_lt la) (Nat.ne_of_lt (Nat.lt_succ_of_lt lb)),
        ⟨hz, hTI, ⟨_, _, hTO⟩, itB_first h1, itB_first h2⟩, fresh5, q⟩

def zipD : List PyData → List PyData → List PyData
  | a :: as, b :: bs => .tuple [a, b] :: zipD as bs
  | _, _ => []
theorem zipD_len : ∀ {as bs : List PyData}, (zipD as bs).length = min as.length bs.length
  | a :: as, b :: bs => by unfold zipD; rw [List.length_cons, List.length_cons, List.length_cons, zipD_len]; omega
  | [], _ => by unfold zipD; simp
  | a :: as, [] => by unfold zipD; simp
theorem zipD_get : ∀ {as bs : List PyData} {i : Nat} {a b : PyData}, as[i]? = some a → bs[i]? = some b → (zipD as bs)[i]? = some (.tuple [a, b])
  | x :: as, y :: bs, 0, a, b, h1, h2 => by cases h1; cases h2; rfl
  | x :: as, y :: bs, i + 1, a, b, h1, h2 => zipD_get (as := as) (bs := bs) (i := i) (by simpa using h1) (by simpa using h2)
  | [], _, i, a, b, h1, _ => by simp at h1
  | _ :: _, [], i, a, b, _, h2 => by simp at h2
/-- zip of two values that own nothing any more -/
def zipI (w1 w2 : WE) : WI := fun ρ xq Q => w1 ρ xq fun r1 ρ1 => ∃ l1, sqOf r1 = some l1 ∧ w2 ρ1 xq fun r2 ρ2 => ∃ l2, sqOf r2 = some l2 ∧ Q (zipD l1 l2) [] ρ2
theorem zipI_mono {w1 w2 : WE} (m1 : MonoE w1) (m2 : MonoE w2) : MonoI (zipI w1 w2) := fun ρ xq Q Q' h q => m1 _ _ _ _ (fun r1 ρ1 ⟨l1, e1, q⟩ => ⟨l1, e1, m2 _ _ _ _ (fun r2 ρ2 ⟨l2, e2, q⟩ => ⟨l2, e2, h _ _ _ q⟩) q⟩) q
section
variable {G : Wd} {T : Xd} {Wx : WX} {X : Cx} {Ha : Hp} {E : Av} {Fa : Fo} {σ : L2.St} {H H1 H2 : Hp} {ρ : List Sl} {F F1 : Fo} {xq : XQ} {W : Av} {us : List (Nat × List PyData)}
/-- the value v is a list or a tuple of l, and stays so -/
def SqV (G : Wd) (W : Av) (H : Hp) (b : Bool) (a : Addr) (l : List PyData) : Prop := Has G.K W H (match b with | true => .list l | false => .tuple l) (.ref a)
theorem SqV.mv {b : Bool} {a : Addr} {l : List PyData} {W' : Av} {H' : Hp} (m : Mv W H W' H') (h : SqV G W H b a l) : SqV G W' H' b a l := Has.mv m _ _ h
theorem SqV.sq {b : Bool} {a : Addr} {l : List PyData} (h : SqV G W H b a l) : ∃ xs, SqB G.K b H a xs ∧ HasL G.K W H l xs := by
  cases b with
  | true =>
    have h : Has G.K W H (.list l) (.ref a) := h
    unfold Has at h
    obtain ⟨z, a', xs, e, h1, h2⟩ := h
    cases e
    exact ⟨xs, h1.sq, h2⟩
  | false =>
    have h : Has G.K W H (.tuple l) (.ref a) := h
    unfold Has at h
    obtain ⟨z, a', xs, e, h1, h2⟩ := h
    cases e
    exact ⟨xs, h1.sq, h2⟩
theorem sqOf_sqv {r : R} {v : V} {f : List Addr} {l : List PyData} {ρ1 : List Sl} (S : St G Ha E Fa σ H ρ F) (rs : Rs G Ha E Fa σ H F (.rv r) ρ1 v H1 F1 f) (e : sqOf r = some l) : ∃ b a, v = .ref a ∧ SqV G (Vo E F1) H1 b a l := by
  have go : ∀ d, r.d = some d → Has G.K (Vo E F1) H1 d v := fun d q => rs.has S q
  have ref : ∀ b : Bool, Has G.K (Vo E F1) H1 (match b with | true => .list l | false => .tuple l) v → ∃ b a, v = .ref a ∧ SqV G (Vo E F1) H1 b a l := fun b h => by
    cases b with
    | true =>
      have h' := h
      change Has G.K (Vo E F1) H1 (.list l) v at h'
      unfold Has at h'
      obtain ⟨z, a, xs, rfl, _⟩ := h'
      exact ⟨true, a, rfl, h⟩
    | false =>
      have h' := h
      change Has G.K (Vo E F1) H1 (.tuple l) v at h'
      unfold Has at h'
      obtain ⟨z, a, xs, rfl, _⟩ := h'
      exact ⟨false, a, rfl, h⟩
  cases r with
  | sh d =>
    cases d with
    | list l => cases e; exact ref true (go _ rfl)
    | tuple l => cases e; exact ref false (go _ rfl)
    | _ => cases e
  | ol l => cases e; exact ref true (go _ rfl)
  | _ => cases e
theorem pair2_has {K : PySem.W.Frag} {x y : V} {c d : PyData} {p : Addr} (hp : H p = none) (hW : ∀ a, W a → H a ≠ none) (h : Has K W H c x) (h2 : Has K W H d y) : (∀ a o, H a = some o → upd H p (.tup [x, y]) a = some o) ∧ Has K W (upd H p (.tup [x, y])) (.tuple [c, d]) (.ref p) := by
  have kp : ∀ a o, H a = some o → upd H p (.tup [x, y]) a = some o := fun a o h => by rw [upd_ne (ne_of_none h hp)]; exact h
  refine ⟨kp, ?_⟩
  unfold Has
  exact ⟨(by show 2 ≤ sizeLine; decide), p, _, rfl, ⟨upd_same, fun q => hW p q hp⟩, .cons (Has.mv ⟨fun a o h _ => kp a o h, fun a q => .inl q⟩ _ _ h) (.one (Has.mv ⟨fun a o h _ => kp a o h, fun a q => .inl q⟩ _ _ h2))⟩
theorem ItD.zipB {p q : Bool} {a b : Addr} {l1 l2 : List PyData} (h1 : SqV G (Vo E F1) H1 p a l1) (h2 : SqV G (Vo E F1) H1 q b l2) : ItD G E σ (ItZB G.K p q a b) (zipD l1 l2) us H1 F1 where
  go := fun H W i s hi => by
    rw [zipD_len] at hi
    obtain ⟨xs, a1, a2⟩ := (h1.mv s.1).sq
    obtain ⟨ys, b1, b2⟩ := (h2.mv s.1).sq
    obtain ⟨x, e, _⟩ := a2.get (i := i) (d := l1[i]) (List.getElem?_eq_getElem (by omega))
    obtain ⟨y, e2, _⟩ := b2.get (i := i) (d := l2[i]) (List.getElem?_eq_getElem (by omega))
    exact ⟨xs, ys, x, y, a1, b1, e, e2⟩
  yld := fun H W i x H' s hW _ y => by
    obtain ⟨xs, a1, a2⟩ := (h1.mv s.1).sq
    obtain ⟨ys, b1, b2⟩ := (h2.mv s.1).sq
    obtain ⟨T0, x, z, rfl, hp, rfl, y1, y2⟩ := y
    obtain ⟨c, e, hx⟩ := a2.get' (y1 xs a1)
    obtain ⟨d, e2, hz⟩ := b2.get' (y2 ys b1)
    obtain ⟨kp, hh⟩ := pair2_has hp hW hx hz
    exact ⟨kp, _, zipD_get e e2, hh⟩
  stop := fun H W i s hi hi2 => by
    rw [zipD_len] at hi hi2
    obtain ⟨xs, a1, a2⟩ := (h1.mv s.1).sq
    obtain ⟨ys, b1, b2⟩ := (h2.mv s.1).sq
    exact ⟨xs, ys, a1, b1, by rw [a2.length]; omega, by rw [b2.length]; omega, by rw [a2.length, b2.length]; omega⟩
end
theorem iZip2 {G : Wd} {T : Xd} {Wx : WX} {X : Cx} {k : Nat} {e e2 : Expr} {w1 w2 : WE} {p pos tpos : Pos} {elts : List Expr} {kk : Nat} (pl : Plc G k Wx X) (hm : X.mg "zip" = none) (h1 : Ee G T Wx X e w1) (h2 : Ee G T Wx X e2 w2) (hg : Gl X "zip" := by rfl)
    (s1 : starEach [e, e2] X.env = (false, eval e X.env) :: starEach [e2] X.env := by rfl) (s2 : starEach [e2] X.env = (false, eval e2 X.env) :: starEach [] X.env := by rfl) (hpl : ∀ pos, (backTo pos (starEach [e2] X.env)).any (·.1) = false := by intro _; rfl) :
    Ii G T Wx X (.Tuple elts kk tpos) (.Call (.Name "zip" p) [e, e2] [] pos) (zipI w1 w2) := by
  refine ⟨zipI_mono h1.m h2.m, ⟨fun pins s σ H R I h' => ?_⟩⟩
  obtain ⟨Ha, E, Fa, ρ, F, xq, S, xp, q⟩ := h'
  refine (pi_zipB hg hm (pa_cons h1.p (pa_cons h2.p pa_nil s2) s1) s1 (hpl _)).run pins s σ H R I ?_
  refine tE.mk h1.m S xp q fun r1 ρ1 v1 H1 F1 f1 q rs1 => ?_
  obtain ⟨l1, e1, q⟩ := q
  obtain ⟨b1, a1, rfl, hs1⟩ := sqOf_sqv S rs1 e1
  have S1 := rs1.st.less (E' := E) fun a h => .inl h
  refine tE.mk h2.m S1 (xp.step rs1.fr) q fun r2 ρ2 v2 H2 F2 f2 q rs2 => ?_
  obtain ⟨l2, e3, q⟩ := q
  obtain ⟨b2, a2, rfl, hs2⟩ := sqOf_sqv S1 rs2 e3
  have S2 := rs2.st.less (E' := E) fun a h => .inl h
  have hs1' := hs1.mv (rs2.fr.mv E)
  obtain ⟨xs, q1, _⟩ := hs1'.sq
  obtain ⟨ys, q2, _⟩ := hs2.sq
  rw [pl.K]
  exact ⟨b1, b2, a1, a2, xs, ys, rfl, q1, q2, q _ H2 F2 S2 (rs1.fr.trans rs2.fr) (.zipB hs1' hs2)⟩
end Pd

/-! Pd29: promises in short, loops by states. -/
namespace Pd
open PySem L2 PyProof.Rows

/-- a promise: of arguments enc x with pre x, the answer res x -/
def Det {α : Type} (enc : α → List Sl) (pre : α → Prop) (res : α → R) : Spc := fun as Q _ => ∃ x, as = enc x ∧ pre x ∧ Q (res x) as
theorem Det_mono {α : Type} {enc : α → List Sl} {pre : α → Prop} {res : α → R} : MonoS (Det enc pre res) := fun as Q Q' E E' h _ ⟨x, e, p, q⟩ => ⟨x, e, p, h _ _ q⟩
/-- a promise: of arguments enc x with pre x, some answer res x y with post x y -/
def Any {α β : Type} (enc : α → List Sl) (pre : α → Prop) (post : α → β → Prop) (res : α → β → R) : Spc := fun as Q _ => ∃ x, as = enc x ∧ pre x ∧ ∀ y, post x y → Q (res x y) as
theorem Any_mono {α β : Type} {enc : α → List Sl} {pre : α → Prop} {post : α → β → Prop} {res : α → β → R} : MonoS (Any enc pre post res) := fun as Q Q' E E' h _ ⟨x, e, p, q⟩ => ⟨x, e, p, fun y hy => h _ _ (q y hy)⟩
/-- slots at ix become vs -/
def upds (ρ : List Sl) : List Nat → List Sl → List Sl
  | i :: is, v :: vs => (upds ρ is vs).set i v
  | _, _ => ρ
theorem ForI.st {τ : Type} {tg : WTg} {w : WS} {ds : List PyData} {ρ : List Sl} {P : Po} (ix : List Nat) (emb : τ → List Sl) (J : List PyData → τ → Prop) (s0 : τ) (e0 : ρ = upds ρ ix (emb s0)) (h0 : J ds s0) (h1 : ∀ s, J [] s → P.nx (upds ρ ix (emb s)))
    (h2 : ∀ d rest s, J (d :: rest) s → tg d (upds ρ ix (emb s)) fun ρ' => w ρ' { P with nx := fun ρ2 => ∃ s', ρ2 = upds ρ ix (emb s') ∧ J rest s', ct := fun ρ2 => ∃ s', ρ2 = upds ρ ix (emb s') ∧ J rest s', bk := P.nx }) : ForI tg w ds ρ P :=
  ⟨fun rest ρ2 => ∃ s, ρ2 = upds ρ ix (emb s) ∧ J rest s, ⟨s0, e0, h0⟩, fun ρ2 ⟨s, e, h⟩ => by subst e; exact h1 s h, fun d rest ρ2 ⟨s, e, h⟩ => by subst e; exact h2 d rest s h⟩
theorem whileI.st {τ : Type} {c : WT} {w : WS} {ρ : List Sl} {P : Po} (ix : List Nat) (emb : τ → List Sl) (J : Nat → τ → Prop) (n : Nat) (s0 : τ) (e0 : ρ = upds ρ ix (emb s0)) (h0 : J n s0)
    (h2 : ∀ n s, J n s → c (upds ρ ix (emb s)) P.xq fun b ρ' => if b = true then w ρ' { P with nx := fun ρ2 => ∃ m, m < n ∧ ∃ s', ρ2 = upds ρ ix (emb s') ∧ J m s', ct := fun ρ2 => ∃ m, m < n ∧ ∃ s', ρ2 = upds ρ ix (emb s') ∧ J m s', bk := P.nx } else P.nx ρ') : whileI c w ρ P :=
  ⟨fun n ρ2 => ∃ s, ρ2 = upds ρ ix (emb s) ∧ J n s, n, ⟨s0, e0, h0⟩, fun n ρ2 ⟨s, e, h⟩ => by subst e; exact h2 n s h⟩
theorem ForI.stop {tg : WTg} {w : WS} {ds : List PyData} {ρ : List Sl} {P : Po} (h : ForI tg w ds ρ P) : ForI tg w ds ρ P := h
theorem CompI.stop {us : List (Nat × List PyData)} {vs : List Nat} {tg : WTg} {c : WT} {w : WE} {ds : List PyData} {ρ : List Sl} {Q : List PyData → List Sl → Prop} (h : CompI us vs tg c w ds ρ Q) : CompI us vs tg c w ds ρ Q := h
theorem whileI.stop {c : WT} {w : WS} {ρ : List Sl} {P : Po} (h : whileI c w ρ P) : whileI c w ρ P := h
theorem sz {n : Nat} (h : n ≤ 1000) : n ≤ sizeLine := Nat.le_trans h (by decide)
theorem szl {n : Nat} (h : n ≤ 1000) : n < sizeLine := Nat.lt_of_le_of_lt h (by decide)
theorem dInts_len (ch : List Nat) : (dInts ch).length = ch.length := List.length_map _
end Pd

/-! Pd30: places of rows of ints. -/
namespace Pd
open PySem L2 PyProof.Rows

theorem nums_first {ls : List Int} (h : 0 < ls.length) : atI (ls.map PyData.int) 0 = some (.int (ls.getD 0 0)) := nums_at (k := 0) h
theorem nums_last {ls : List Int} (h : 0 < ls.length) : atI (ls.map PyData.int) (-1) = some (.int (ls.getD (ls.length - 1) 0)) := by
  unfold atI ixN
  rw [List.length_map, if_neg (by omega), if_pos (by omega)]
  show (ls.map PyData.int)[(-1 + (ls.length : Int)).toNat]? = _
  rw [show (-1 + (ls.length : Int)).toNat = ls.length - 1 by omega, List.getElem?_map, List.getD_eq_getElem?_getD, List.getElem?_eq_getElem (by omega)]
  rfl
theorem pMax_tints {l : List Int} {Q : R → Prop} (e : 0 < l.length) (h : ∀ x : Int, x ∈ l → (∀ y ∈ l, y ≤ x) → Q (.sh (.int x))) : pMax [.tuple (l.map .int)] Q := by
  cases l with
  | nil => exact absurd e (by decide)
  | cons m ms =>
    refine ⟨alike_ints (m :: ms), plain_intA (m :: ms), Nat.le_trans (Nat.le_of_eq (depth_ints (m :: ms))) (by decide), ?_⟩
    rw [PySem.W.maxD_ints]
    have q := foldl_max ms m
    refine h _ ?_ fun y hy => ?_
    · rcases q.1 with e | e
      · rw [e]; simp
      · exact List.mem_cons_of_mem _ e
    · rcases List.mem_cons.mp hy with rfl | hy
      · exact q.2.1
      · exact q.2.2 y hy
theorem getD_in {l : List Int} {i : Nat} (h : i < l.length) : l.getD i 0 ∈ l := by
  rw [List.getD_eq_getElem?_getD, List.getElem?_eq_getElem h]
  exact List.getElem_mem h
theorem cut_mid {a z : Int} {mid : List Int} : cutD ((a :: (mid ++ [z])).map PyData.int) (some 1) (some (-1)) = mid.map .int := by
  unfold cutD HT.sIx
  simp
  rw [show (-1 + ((mid.length : Int) + 1 + 1)).toNat - 1 = mid.length by omega]
  rw [List.take_append_of_le_length (by simp)]
  exact List.take_of_length_le (by simp)
theorem ends_of {ls : List Int} (h : 2 ≤ ls.length) : ∃ a mid z, ls = a :: (mid ++ [z]) := by
  cases ls with
  | nil => simp at h
  | cons a r =>
    rcases List.eq_nil_or_concat r with rfl | ⟨m, z, e⟩
    · simp at h
    · exact ⟨a, m, z, by rw [e, List.concat_eq_append]⟩
/-- the first and the last one made greater -/
def freshL (ls : List Int) (t s : Int) : List Int := (ls.set 0 (ls.getD 0 0 + t)).set (ls.length - 1) (ls.getD (ls.length - 1) 0 + s)
theorem fresh_len {ls : List Int} {t s : Int} : (freshL ls t s).length = ls.length := by
  unfold freshL
  rw [List.length_set, List.length_set]
theorem fresh_eq {ls : List Int} {t s : Int} (h : 2 ≤ ls.length) : [PyData.int (ls.getD 0 0 + t)] ++ cutD (ls.map .int) (some 1) (some (-1)) ++ [.int (ls.getD (ls.length - 1) 0 + s)] = (freshL ls t s).map .int := by
  obtain ⟨a, mid, z, rfl⟩ := ends_of h
  rw [cut_mid]
  unfold freshL
  have e1 : (a :: (mid ++ [z])).length - 1 = mid.length + 1 := by simp
  have e2 : (a :: (mid ++ [z])).getD (mid.length + 1) 0 = z := by
    rw [List.getD_eq_getElem?_getD]
    simp
  rw [e1, e2]
  simp
theorem fresh_eq' {ls : List Int} {t s : Int} (h : 2 ≤ ls.length) : PyData.int (ls.getD 0 0 + t) :: (cutD (ls.map .int) (some 1) (some (-1)) ++ [.int (ls.getD (ls.length - 1) 0 + s)]) = (freshL ls t s).map .int := fresh_eq h
theorem fresh_0 {ls : List Int} {t s : Int} (h : 2 ≤ ls.length) : (freshL ls t s).getD 0 0 = ls.getD 0 0 + t := by
  unfold freshL
  rw [List.getD_eq_getElem?_getD, List.getElem?_set_ne (by omega), List.getElem?_set_self (by omega)]
  rfl
theorem fresh_mid {ls : List Int} {t s : Int} {i : Nat} (h0 : 0 < i) (h : i < ls.length - 1) : (freshL ls t s).getD i 0 = ls.getD i 0 := by
  unfold freshL
  rw [List.getD_eq_getElem?_getD, List.getElem?_set_ne (by omega), List.getElem?_set_ne (by omega), List.getD_eq_getElem?_getD]
theorem getD_s {α : Type} {x d : α} {xs : List α} {n : Nat} : (x :: xs).getD (n + 1) d = xs.getD n d := rfl
theorem getD_z {α : Type} {x d : α} {xs : List α} : (x :: xs).getD 0 d = x := rfl
/-- a loop that only looks: its items are so, its slots are whatever they are -/
theorem ForI.all {τ : Type} {tg : WTg} {w : WS} {ds : List PyData} {ρ : List Sl} {P : Po} (ix : List Nat) (emb : τ → List Sl) (J : PyData → Prop) (s0 : τ) (e0 : ρ = upds ρ ix (emb s0)) (h0 : ∀ d ∈ ds, J d) (h1 : ∀ s, P.nx (upds ρ ix (emb s)))
    (h2 : ∀ (d : PyData) (rest : List PyData) s, J d → (∀ d ∈ rest, J d) → tg d (upds ρ ix (emb s)) fun ρ' => w ρ' { P with nx := fun ρ2 => ∃ s', ρ2 = upds ρ ix (emb s') ∧ (∀ d ∈ rest, J d), ct := fun ρ2 => ∃ s', ρ2 = upds ρ ix (emb s') ∧ (∀ d ∈ rest, J d), bk := P.nx }) : ForI tg w ds ρ P :=
  ForI.st ix emb (fun (rest : List PyData) _ => ∀ d ∈ rest, J d) s0 e0 h0 (fun s _ => h1 s) fun d rest s h => h2 d rest s (h d (by simp)) (fun x hx => h x (List.mem_cons_of_mem _ hx))
/-- a comprehension whose turns yield the item or nothing -/
theorem comp_sub {us : List (Nat × List PyData)} {vs : List Nat} {tg : WTg} {c : WT} {w : WE} {ds : List PyData} {ρ' : List Sl} {Q : List PyData → List Sl → Prop} (hv : vwsOk us (wipeS ρ' vs))
    (h : ∀ d ∈ ds, ∀ K : Option PyData → List Sl → Prop, K none (wipeS ρ' vs) → K (some d) (wipeS ρ' vs) → turnC vs tg c w d (wipeS ρ' vs) K) (q : ∀ acc : List PyData, acc.Sublist ds → Q acc (keepS ρ' (wipeS ρ' vs) vs)) :
    CompI us vs tg c w ds ρ' Q := by
  refine ⟨fun rest acc ρ => ρ = wipeS ρ' vs ∧ ∃ pre, ds = pre ++ rest ∧ acc.Sublist pre, ⟨rfl, [], rfl, .slnil⟩, ?_, ?_, ?_⟩
  · rintro _ _ _ ⟨rfl, _⟩
    exact hv
  · rintro acc ρ2 ⟨rfl, pre, e1, e2⟩
    rw [List.append_nil] at e1
    exact q acc (by rw [e1]; exact e2)
  · rintro d rest acc ρ ⟨rfl, pre, e1, e2⟩
    refine h d (by rw [e1]; simp) _ ⟨rfl, pre ++ [d], by rw [e1]; simp, ?_⟩ ⟨rfl, pre ++ [d], by rw [e1]; simp, ?_⟩
    · exact e2.append (List.nil_sublist [d])
    · exact e2.append (List.Sublist.refl [d])
theorem sub_ints {js : List Nat} {acc : List PyData} (h : acc.Sublist (dInts js)) : ∃ ms : List Nat, ms.Sublist js ∧ acc = dInts ms := List.sublist_map_iff.mp h
theorem enum_nats {js : List Nat} : ∀ {k : Nat} {d : PyData}, d ∈ enumD k (dInts js) → ∃ i j : Nat, d = .tuple [.int i, .int j] ∧ k ≤ i ∧ js[i - k]? = some j := fun {k d} h => by
  obtain ⟨i, x, rfl, h1, h2⟩ := mem_enumG h
  unfold dInts at h2
  rw [List.getElem?_map] at h2
  cases e : js[i - k]? with
  | none => rw [e] at h2; exact nomatch h2
  | some j =>
    rw [e] at h2
    exact ⟨i, j, by rw [← Option.some.inj h2], h1, e⟩
theorem eqv_nils (js : List Nat) : PyData.eqv (.list (dInts js)) (.list []) = js.isEmpty ∧ PyData.eqv (.tuple (dInts js)) (.tuple []) = js.isEmpty := by
  cases js with
  | nil => exact ⟨rfl, rfl⟩
  | cons j js => exact ⟨rfl, rfl⟩
theorem pEq_nils {js : List Nat} {Q : R → Prop} (h : Q (.sh (.bool js.isEmpty))) : pEq [.list (dInts js), .list []] Q := ⟨_, _, rfl, plain_row js, rfl, Nat.le_trans (Nat.min_le_right _ _) (by decide), by rw [(eqv_nils js).1]; exact h⟩
theorem pNe_nils {js : List Nat} {Q : R → Prop} (h : Q (.sh (.bool (!js.isEmpty)))) : pNe [.list (dInts js), .list []] Q := ⟨_, _, rfl, plain_row js, rfl, Nat.le_trans (Nat.min_le_right _ _) (by decide), by rw [(eqv_nils js).1]; exact h⟩
theorem pEq_nilt {js : List Nat} {Q : R → Prop} (h : Q (.sh (.bool js.isEmpty))) : pEq [.tuple (dInts js), .tuple []] Q := ⟨_, _, rfl, plain_row js, rfl, Nat.le_trans (Nat.min_le_right _ _) (by decide), by rw [(eqv_nils js).2]; exact h⟩
theorem pNe_nilt {js : List Nat} {Q : R → Prop} (h : Q (.sh (.bool (!js.isEmpty)))) : pNe [.tuple (dInts js), .tuple []] Q := ⟨_, _, rfl, plain_row js, rfl, Nat.le_trans (Nat.min_le_right _ _) (by decide), by rw [(eqv_nils js).2]; exact h⟩
theorem dInts_ne {js : List Nat} (h : (!js.isEmpty) = true) : dInts js ≠ [] := by
  cases js with
  | nil => exact nomatch h
  | cons j js => exact fun h => nomatch h
theorem jumps24 {sk : Sk} (hs : SkOk sk) : (jumpsOf 0 sk).length ≤ 24 := Nat.le_trans jumpsOf_len hs.1
theorem jump_at {sk : Sk} {j : Nat} (h : j ∈ jumpsOf 0 sk) : ∃ g b l, sk[j]? = some (.jump g b l) := (mem_jumps h).2
theorem jump_lt {sk : Sk} (hs : SkOk sk) {ch : List Nat} (h : ch.Sublist (jumpsOf 0 sk)) : ∀ c ∈ ch, c < 100 := fun c hc => by
  obtain ⟨g, b, l, e⟩ := jump_at (h.subset hc)
  have := lt_of_get e
  have := hs.1
  omega
theorem iteT {b : Bool} {A B : Prop} (h : b = true) (a : A) : if b = true then A else B := by rw [if_pos h]; exact a
theorem iteF {b : Bool} {A B : Prop} (h : b = false) (a : B) : if b = true then A else B := by rw [if_neg (by rw [h]; decide)]; exact a
theorem rng_ints {lo : Int} {n : Nat} : ∀ d ∈ rngD lo n, ∃ i : Int, d = .int i := fun d hd => by
  obtain ⟨i, _, rfl⟩ := List.mem_map.mp hd
  exact ⟨_, rfl⟩
end Pd

/-! Pd31: loops that gather; what is stuck. -/
namespace Pd
open PySem L2 PyProof.Rows

/-- a loop that gathers: each item gives a list of at most one thing -/
theorem ForI.acc {α β τ : Type} {tg : WTg} {w : WS} {ds : List PyData} {ρ : List Sl} {P : Po} (ix : List Nat) (emb : List β → τ → List Sl) (enc : α → PyData) (L : List α) (g : α → List β) (a0 : List β) (s0 : τ) (e : ds = L.map enc) (e0 : ρ = upds ρ ix (emb a0 s0))
    (hg : ∀ x ∈ L, (g x).length ≤ 1) (h1 : ∀ s, P.nx (upds ρ ix (emb (a0 ++ L.flatMap g) s)))
    (h2 : ∀ (x : α) (acc : List β) (s : τ) (N : List Sl → Prop), x ∈ L → acc.length < a0.length + L.length → (∃ pre rest, L = pre ++ x :: rest ∧ acc = a0 ++ pre.flatMap g) → (∀ s', N (upds ρ ix (emb (acc ++ g x) s'))) → tg (enc x) (upds ρ ix (emb acc s)) fun ρ' => w ρ' { P with nx := N, ct := N, bk := P.nx }) : ForI tg w ds ρ P := by
  subst e
  have gl : ∀ pre : List α, (∀ x ∈ pre, x ∈ L) → (pre.flatMap g).length ≤ pre.length := fun pre => by
    induction pre with
    | nil => intro _; simp
    | cons x pre ih =>
      intro h
      have a := hg x (h x (by simp))
      have b := ih fun y hy => h y (by simp [hy])
      rw [List.flatMap_cons, List.length_append, List.length_cons]
      omega
  refine ⟨fun rest ρ2 => ∃ pre suf s, L = pre ++ suf ∧ rest = suf.map enc ∧ ρ2 = upds ρ ix (emb (a0 ++ pre.flatMap g) s), ⟨[], L, s0, rfl, rfl, by simpa using e0⟩, ?_, ?_⟩
  · rintro ρ2 ⟨pre, suf, s, e1, e2, rfl⟩
    have : suf = [] := List.map_eq_nil_iff.mp e2.symm
    subst this
    rw [List.append_nil] at e1
    subst e1
    exact h1 s
  · rintro d rest ρ2 ⟨pre, suf, s, e1, e2, rfl⟩
    cases suf with
    | nil => cases e2
    | cons x suf =>
      rw [List.map_cons] at e2
      obtain ⟨rfl, rfl⟩ := List.cons.inj e2
      have hx : x ∈ L := by rw [e1]; simp
      have ll := gl pre fun y hy => by rw [e1]; simp [hy]
      refine h2 x (a0 ++ pre.flatMap g) s _ hx (by
        rw [List.length_append]
        have e3 : L.length = pre.length + (suf.length + 1) := by rw [e1]; simp
        omega) ⟨pre, suf, e1, rfl⟩ fun s' => ?_
      exact ⟨pre ++ [x], suf, s', by rw [e1]; simp, rfl, by simp⟩
/-- a loop by what holds of its state -/
theorem ForI.go {τ : Type} {tg : WTg} {w : WS} {ds : List PyData} {ρ : List Sl} {P : Po} (ix : List Nat) (emb : τ → List Sl) (J : List PyData → τ → Prop) (s0 : τ) (e0 : ρ = upds ρ ix (emb s0)) (h0 : J ds s0) (h1 : ∀ s, J [] s → P.nx (upds ρ ix (emb s)))
    (h2 : ∀ (d : PyData) (rest : List PyData) (s : τ) (N : List Sl → Prop), J (d :: rest) s → (∀ s', J rest s' → N (upds ρ ix (emb s'))) → tg d (upds ρ ix (emb s)) fun ρ' => w ρ' { P with nx := N, ct := N, bk := P.nx }) : ForI tg w ds ρ P :=
  ⟨fun rest ρ2 => ∃ s, ρ2 = upds ρ ix (emb s) ∧ J rest s, ⟨s0, e0, h0⟩, fun ρ2 ⟨s, e, h⟩ => by subst e; exact h1 s h, fun d rest ρ2 ⟨s, e, h⟩ => by subst e; exact h2 d rest s _ h fun s' h => ⟨s', rfl, h⟩⟩
/-- a loop that only looks -/
theorem ForI.look {τ : Type} {tg : WTg} {w : WS} {ds : List PyData} {ρ : List Sl} {P : Po} (ix : List Nat) (emb : τ → List Sl) (J : PyData → Prop) (s0 : τ) (e0 : ρ = upds ρ ix (emb s0)) (h0 : ∀ d ∈ ds, J d) (h1 : ∀ s, P.nx (upds ρ ix (emb s)))
    (h2 : ∀ (d : PyData) (s : τ) (N : List Sl → Prop), J d → (∀ s', N (upds ρ ix (emb s'))) → tg d (upds ρ ix (emb s)) fun ρ' => w ρ' { P with nx := N, ct := N, bk := P.nx }) : ForI tg w ds ρ P :=
  ForI.go ix emb (fun (rest : List PyData) _ => ∀ d ∈ rest, J d) s0 e0 h0 (fun s _ => h1 s) fun d rest s N h hN => h2 d s N (h d (by simp)) fun s' => hN s' fun x hx => h x (List.mem_cons_of_mem _ hx)
theorem whileI.go {τ : Type} {c : WT} {w : WS} {ρ : List Sl} {P : Po} (ix : List Nat) (emb : τ → List Sl) (J : Nat → τ → Prop) (n : Nat) (s0 : τ) (e0 : ρ = upds ρ ix (emb s0)) (h0 : J n s0)
    (h2 : ∀ (n : Nat) (s : τ) (N : List Sl → Prop), J n s → (∀ m s', m < n → J m s' → N (upds ρ ix (emb s'))) → c (upds ρ ix (emb s)) P.xq fun b ρ' => if b = true then w ρ' { P with nx := N, ct := N, bk := P.nx } else P.nx ρ') : whileI c w ρ P :=
  ⟨fun n ρ2 => ∃ s, ρ2 = upds ρ ix (emb s) ∧ J n s, n, ⟨s0, e0, h0⟩, fun n ρ2 ⟨s, e, h⟩ => by subst e; exact h2 n s _ h fun m s' l h => ⟨m, l, s', rfl, h⟩⟩
theorem dInts_app (acc : List Nat) (j : Nat) : dInts (acc ++ [j]) = dInts acc ++ [.int j] := by
  unfold dInts
  rw [List.map_append]
  rfl
/-! ### what is stuck -/
def dProg (sk : Sk) (ls rs : List Int) : PyData := .tuple [dSk sk, dNums ls, dNums rs]
def goalOf (sk : Sk) (j : Nat) : Nat := match sk[j]? with
  | some (.jump g _ _) => g
  | _ => 0
theorem goal_at {sk : Sk} {j g : Nat} {b l : Int} (h : sk[j]? = some (.jump g b l)) : goalOf sk j = g := by
  unfold goalOf
  rw [h]
def stuckG (sk : Sk) (ls : List Int) (ch : List Nat) (p : Nat × Int) : List Nat := if (!ch.contains p.1) = true ∧ p.2 < wayOf sk ls ch p.1 (goalOf sk p.1) then [p.1] else []
def stuckOf (sk : Sk) (ls rs : List Int) (ch : List Nat) : List Nat := ((jumpsOf 0 sk).zip rs).flatMap (stuckG sk ls ch)
def dJR (p : Nat × Int) : PyData := .tuple [.int p.1, .int p.2]
theorem zip_jr : ∀ (js : List Nat) (rs : List Int), zipD (dInts js) (rs.map .int) = (js.zip rs).map dJR
  | [], _ => by unfold zipD; rfl
  | j :: js, [] => rfl
  | j :: js, r :: rs => by
    show PyData.tuple [.int j, .int r] :: zipD (dInts js) (rs.map .int) = _
    rw [zip_jr js rs]
    rfl
theorem way_short {sk : Sk} {ls : List Int} {ch : List Nat} {j g : Nat} (h : (!ch.contains j) = true) : wayB (lay ls ch sk) j g = wayOf sk ls ch j g := by
  unfold wayOf
  rw [List.filter_eq_self.mpr fun c hc => decide_eq_true ?_]
  rintro rfl
  rw [List.contains_iff_mem.mpr hc] at h
  cases h
theorem stuckG_le (sk : Sk) (ls : List Int) (ch : List Nat) (p : Nat × Int) : (stuckG sk ls ch p).length ≤ 1 := by
  unfold stuckG
  split
  · exact Nat.le_refl _
  · exact Nat.zero_le _
theorem zip_mem {js : List Nat} {rs : List Int} {p : Nat × Int} (h : p ∈ js.zip rs) : p.1 ∈ js ∧ p.2 ∈ rs := ⟨(List.of_mem_zip h).1, (List.of_mem_zip h).2⟩
theorem stuck_sub {sk : Sk} {ls rs : List Int} {ch : List Nat} : (stuckOf sk ls rs ch).Sublist (jumpsOf 0 sk) := by
  unfold stuckOf
  generalize jumpsOf 0 sk = js
  induction js generalizing rs with
  | nil => simp
  | cons j js ih =>
    cases rs with
    | nil => simp
    | cons r rs =>
      rw [List.zip_cons_cons, List.flatMap_cons]
      unfold stuckG
      split
      · exact (ih (rs := rs)).cons₂ j
      · exact (ih (rs := rs)).cons j
theorem mem_stuck {sk : Sk} {ls rs : List Int} {ch : List Nat} {j : Nat} : j ∈ stuckOf sk ls rs ch ↔ ∃ r, (j, r) ∈ (jumpsOf 0 sk).zip rs ∧ j ∉ ch ∧ r < wayOf sk ls ch j (goalOf sk j) := by
  unfold stuckOf
  rw [List.mem_flatMap]
  constructor
  · rintro ⟨⟨i, r⟩, h, h2⟩
    unfold stuckG at h2
    split at h2
    · rename_i c
      rw [List.mem_singleton.mp h2] at *
      refine ⟨r, h, fun hc => ?_, c.2⟩
      have := c.1
      rw [List.contains_iff_mem.mpr hc] at this
      cases this
    · exact nomatch h2
  · rintro ⟨r, h, h2, h3⟩
    refine ⟨(j, r), h, ?_⟩
    unfold stuckG
    rw [if_pos ⟨by
      show (!ch.contains j) = true
      rw [Bool.not_eq_true', ← Bool.not_eq_true, List.contains_iff_mem]
      exact h2, h3⟩]
    simp
theorem pMax2 {i j : Int} {Q : R → Prop} (h : Q (.sh (.int (max i j)))) : pMax [.int i, .int j] Q := by
  show Q (.sh (.int (if j > i then j else i)))
  rw [show (if j > i then j else i) = max i j by split <;> omega]
  exact h
theorem pMin2 {i j : Int} {Q : R → Prop} (h : Q (.sh (.int (min i j)))) : pMin [.int i, .int j] Q := by
  show Q (.sh (.int (if j < i then j else i)))
  rw [show (if j < i then j else i) = min i j by split <;> omega]
  exact h
def isIntD : PyData → Bool
  | .int _ => true
  | _ => false
theorem all_int {l : List PyData} {d : PyData} (h : l.all isIntD = true) (hd : d ∈ l) : ∃ c : Int, d = .int c := by
  have := List.all_eq_true.mp h d hd
  cases d with
  | int c => exact ⟨c, rfl⟩
  | _ => cases this
theorem ints_app (acc : List Int) (j : Int) : (acc ++ [j]).map PyData.int = acc.map .int ++ [.int j] := by
  rw [List.map_append]
  rfl
/-- a drawn program -/
structure PrOk (sk : Sk) (ls rs : List Int) : Prop where
  ok : SkOk sk
  ll : ls.length = sk.length + 1
  lb : ∀ x ∈ ls, 0 ≤ x ∧ x ≤ 1000000000
  rl : rs.length = (jumpsOf 0 sk).length
  rb : ∀ x ∈ rs, 0 ≤ x ∧ x ≤ 1000000000
end Pd

/-! Pd32: comprehensions over typed rows; texts of programs; what is stuck by just reaches. -/
namespace Pd
open PySem L2 PyProof.Rows

theorem filterMap_ite {α : Type} (f : α → Bool) : ∀ L : List α, L.filterMap (fun x => if f x = true then some x else none) = L.filter f
  | [] => rfl
  | x :: L => by
    rw [List.filterMap_cons, List.filter_cons]
    cases q : f x with
    | true => simp [filterMap_ite f L]
    | false => simp [filterMap_ite f L]
section
variable {us : List (Nat × List PyData)} {vs : List Nat} {tg : WTg} {c : WT} {w : WE} {ds : List PyData} {ρ' : List Sl} {Q : List PyData → List Sl → Prop} {α β : Type}
theorem comp_opt (enc : α → PyData) (enc2 : β → PyData) (L : List α) (f : α → Option β) (e : ds = L.map enc) (hv : vwsOk us (wipeS ρ' vs))
    (h : ∀ x ∈ L, ∀ K : Option PyData → List Sl → Prop, K ((f x).map enc2) (wipeS ρ' vs) → turnC vs tg c w (enc x) (wipeS ρ' vs) K) (q : Q ((L.filterMap f).map enc2) (keepS ρ' (wipeS ρ' vs) vs)) : CompI us vs tg c w ds ρ' Q := by
  subst e
  refine ⟨fun rest acc ρ => ρ = wipeS ρ' vs ∧ ∃ pre suf, L = pre ++ suf ∧ rest = suf.map enc ∧ acc = (pre.filterMap f).map enc2, ⟨rfl, [], L, rfl, rfl, rfl⟩, ?_, ?_, ?_⟩
  · rintro _ _ _ ⟨rfl, _⟩
    exact hv
  · rintro acc ρ2 ⟨rfl, pre, suf, e1, e2, rfl⟩
    have : suf = [] := List.map_eq_nil_iff.mp e2.symm
    subst this
    rw [List.append_nil] at e1
    subst e1
    exact q
  · rintro d rest acc ρ ⟨rfl, pre, suf, e1, e2, rfl⟩
    cases suf with
    | nil => cases e2
    | cons x suf =>
      rw [List.map_cons] at e2
      obtain ⟨rfl, rfl⟩ := List.cons.inj e2
      refine h x (by rw [e1]; simp) _ ⟨rfl, pre ++ [x], suf, by rw [e1]; simp, rfl, ?_⟩
      rw [List.filterMap_append, List.map_append]
      cases q2 : f x <;> simp [q2]
theorem comp_map (enc : α → PyData) (enc2 : β → PyData) (L : List α) (f : α → β) (e : ds = L.map enc) (hv : vwsOk us (wipeS ρ' vs))
    (h : ∀ x ∈ L, ∀ K : Option PyData → List Sl → Prop, K (some (enc2 (f x))) (wipeS ρ' vs) → turnC vs tg c w (enc x) (wipeS ρ' vs) K) (q : Q ((L.map f).map enc2) (keepS ρ' (wipeS ρ' vs) vs)) : CompI us vs tg c w ds ρ' Q :=
  comp_opt enc enc2 L (fun x => some (f x)) e hv h (by rw [filterMap_some]; exact q)
theorem comp_fil (enc : α → PyData) (L : List α) (f : α → Bool) (e : ds = L.map enc) (hv : vwsOk us (wipeS ρ' vs))
    (h : ∀ x ∈ L, ∀ K : Option PyData → List Sl → Prop, K (if f x = true then some (enc x) else none) (wipeS ρ' vs) → turnC vs tg c w (enc x) (wipeS ρ' vs) K) (q : Q ((L.filter f).map enc) (keepS ρ' (wipeS ρ' vs) vs)) : CompI us vs tg c w ds ρ' Q :=
  comp_opt enc enc L (fun x => if f x = true then some x else none) e hv (fun x hx K k => h x hx K (by
    cases q : f x with
    | true => rw [q] at k; exact k
    | false => rw [q] at k; exact k)) (by
    rw [show L.filterMap (fun x => if f x = true then some x else none) = L.filter f from ?_]
    · exact q
    · exact filterMap_ite f L)
/-- .. each of whose turns yields something akin to its item -/
theorem comp_rel (enc : α → PyData) (enc2 : β → PyData) (L : List α) (Rl : α → β → Prop) (e : ds = L.map enc) (hv : vwsOk us (wipeS ρ' vs))
    (h : ∀ x ∈ L, ∀ K : Option PyData → List Sl → Prop, (∀ y, Rl x y → K (some (enc2 y)) (wipeS ρ' vs)) → turnC vs tg c w (enc x) (wipeS ρ' vs) K)
    (q : ∀ ms : List β, ms.length = L.length → (∀ (i : Nat) (x : α) (y : β), L[i]? = some x → ms[i]? = some y → Rl x y) → Q (ms.map enc2) (keepS ρ' (wipeS ρ' vs) vs)) : CompI us vs tg c w ds ρ' Q := by
  subst e
  refine ⟨fun rest acc ρ => ρ = wipeS ρ' vs ∧ ∃ pre suf ms, L = pre ++ suf ∧ rest = suf.map enc ∧ acc = ms.map enc2 ∧ ms.length = pre.length ∧ ∀ (i : Nat) (x : α) (y : β), L[i]? = some x → ms[i]? = some y → Rl x y, ⟨rfl, [], L, [], rfl, rfl, rfl, rfl, fun i x y _ h => by simp at h⟩, ?_, ?_, ?_⟩
  · rintro _ _ _ ⟨rfl, _⟩
    exact hv
  · rintro acc ρ2 ⟨rfl, pre, suf, ms, e1, e2, rfl, e3, e4⟩
    have : suf = [] := List.map_eq_nil_iff.mp e2.symm
    subst this
    rw [List.append_nil] at e1
    subst e1
    exact q ms e3 e4
  · rintro d rest acc ρ ⟨rfl, pre, suf, ms, e1, e2, rfl, e3, e4⟩
    cases suf with
    | nil => cases e2
    | cons x suf =>
      rw [List.map_cons] at e2
      obtain ⟨rfl, rfl⟩ := List.cons.inj e2
      refine h x (by rw [e1]; simp) _ fun y hy => ⟨rfl, pre ++ [x], suf, ms ++ [y], by rw [e1]; simp, rfl, by simp, by simp [e3], fun i a b ha hb => ?_⟩
      by_cases hi : i < ms.length
      · rw [List.getElem?_append_left hi] at hb
        exact e4 i a b ha hb
      · rw [List.getElem?_append_right (by omega)] at hb
        have : i - ms.length = 0 := by
          have := lt_of_get hb
          simp at this
          omega
        rw [this] at hb
        have hb : y = b := by simpa using hb
        subst hb
        rw [e1, List.getElem?_append_right (by omega), show i - pre.length = 0 by omega] at ha
        have ha : x = a := by simpa using ha
        subst ha
        exact hy
end
/-! ### texts -/
theorem Nice.lst' {l : List PyData} {D W : Nat} (h : ∀ d ∈ l, Nice d D W) : Nice (.list l) (D + 1) (l.length * (W + 1)) := Nice.lst (NiceA.all h)
theorem Nice.tup' {l : List PyData} {D W : Nat} (h : ∀ d ∈ l, Nice d D W) : Nice (.tuple l) (D + 1) (l.length * (W + 1)) := Nice.tup (NiceA.all h)
theorem Nice.two {a b : PyData} {D W : Nat} (ha : Nice a D W) (hb : Nice b D W) : Nice (.list [a, b]) (D + 1) (2 * (W + 1)) := Nice.lst' fun d hd => by
  simp only [List.mem_cons, List.not_mem_nil, or_false] at hd
  rcases hd with rfl | rfl
  · exact ha
  · exact hb
theorem Nice.bool {b : Bool} : Nice (.bool b) 0 10 := ⟨rfl, rfl, by cases b <;> rfl, Nat.le_refl _, by cases b <;> decide⟩
theorem Nice.nat {n : Nat} (h : n < 1000000) : Nice (.int n) 0 41 := Nice.int (by omega) (by omega)
theorem prog_nice {sk : Sk} {ls rs : List Int} (h : PrOk sk ls rs) : Nice (dProg sk ls rs) 3 40000 := by
  have j := jumps24 h.ok
  have l := h.ok.1
  refine (Nice.tup' (l := [dSk sk, dNums ls, dNums rs]) (D := 2) (W := 10000) fun d hd => ?_).le (Nat.le_refl _) (by show 3 * 10001 ≤ 40000; decide)
  simp only [List.mem_cons, List.not_mem_nil, or_false] at hd
  rcases hd with rfl | rfl | rfl
  · exact dSk_nice h.ok
  · exact (dNums_nice h.lb (by have := h.ll; omega)).le (by decide) (by decide)
  · exact (dNums_nice h.rb (by have := h.rl; omega)).le (by decide) (by decide)
/-! ### just reaches -/
def wayAt (sk : Sk) (ls : List Int) (ch : List Nat) (j : Nat) : Int := wayOf sk ls ch j (goalOf sk j)
theorem stuck_nil {sk : Sk} {ls rs : List Int} {ch : List Nat} (h : ∀ p ∈ (jumpsOf 0 sk).zip rs, wayAt sk ls ch p.1 ≤ p.2) : stuckOf sk ls rs ch = [] := by
  unfold stuckOf
  rw [List.flatMap_eq_nil_iff]
  intro p hp
  have := h p hp
  unfold wayAt at this
  unfold stuckG
  rw [if_neg (by omega)]
theorem nats_at {js : List Nat} {i : Nat} (h : i < js.length) : atI (dInts js) (i : Int) = some (.int (js.getD i 0 : Nat)) :=
  atI_get (by unfold dInts; rw [List.getElem?_map, List.getElem?_eq_getElem h, List.getD_eq_getElem?_getD, List.getElem?_eq_getElem h]; rfl)
theorem set_cut {ls : List Int} {s : Nat} {v : Int} (h : s < ls.length) : cutD (ls.map .int) none (some (s : Int)) ++ [.int v] ++ cutD (ls.map .int) (some ((s : Int) + 1)) none = (ls.set s v).map .int := by
  rw [cutD_take, show ((s : Int) + 1) = ((s + 1 : Nat) : Int) by omega, cutD_drop (by rw [List.length_map]; omega), List.set_eq_take_append_cons_drop, if_pos h]
  rw [List.map_append, List.map_cons, List.map_take, List.map_drop, List.append_assoc]
  rfl
theorem stuck_all {sk : Sk} {ls rs : List Int} : stuckOf sk ls rs (jumpsOf 0 sk) = [] := by
  unfold stuckOf
  rw [List.flatMap_eq_nil_iff]
  intro p hp
  unfold stuckG
  rw [if_neg (fun h => by
    have := h.1
    rw [List.contains_iff_mem.mpr (zip_mem hp).1] at this
    cases this)]
theorem stuck_one {sk : Sk} {ls rs : List Int} {ch : List Nat} {s : Nat} {j : Nat} {r : Int} (hj : (jumpsOf 0 sk)[s]? = some j) (hr : rs[s]? = some r) (hc : ch.contains j = false) (hw : r < wayAt sk ls ch j)
    (h : ∀ (i k : Nat) (x : Int), i ≠ s → (jumpsOf 0 sk)[i]? = some k → rs[i]? = some x → wayAt sk ls ch k ≤ x) : stuckOf sk ls rs ch = [j] := by
  unfold stuckOf
  have hz : ((jumpsOf 0 sk).zip rs)[s]? = some (j, r) := List.getElem?_zip_eq_some.mpr ⟨hj, hr⟩
  have sl := lt_of_get hz
  have e : (jumpsOf 0 sk).zip rs = ((jumpsOf 0 sk).zip rs).take s ++ (j, r) :: ((jumpsOf 0 sk).zip rs).drop (s + 1) := by
    rw [List.getElem?_eq_getElem sl] at hz
    rw [← Option.some.inj hz, List.getElem_cons_drop, List.take_append_drop]
  have no : ∀ i, i ≠ s → ∀ p, ((jumpsOf 0 sk).zip rs)[i]? = some p → stuckG sk ls ch p = [] := fun i hi p hp => by
    obtain ⟨h1, h2⟩ := List.getElem?_zip_eq_some.mp hp
    have := h i p.1 p.2 hi h1 h2
    unfold wayAt at this
    unfold stuckG
    rw [if_neg (by omega)]
  rw [e, List.flatMap_append, List.flatMap_cons, List.flatMap_eq_nil_iff.mpr fun p hp => ?_, List.flatMap_eq_nil_iff.mpr fun p hp => ?_]
  · unfold stuckG
    unfold wayAt at hw
    rw [if_pos ⟨by show (!ch.contains j) = true; rw [hc]; rfl, hw⟩]
    rfl
  · obtain ⟨i, hi, e2⟩ := List.mem_iff_getElem.mp hp
    rw [List.length_drop] at hi
    rw [List.getElem_drop] at e2
    exact no (s + 1 + i) (by omega) p (by rw [← e2]; exact List.getElem?_eq_getElem (by omega))
  · obtain ⟨i, hi, e2⟩ := List.mem_iff_getElem.mp hp
    rw [List.length_take] at hi
    rw [List.getElem_take] at e2
    exact no i (by omega) p (by rw [← e2]; exact List.getElem?_eq_getElem (by omega))
end Pd

/-! Pd33: sorted of tuples. -/
namespace Pd
open PySem L2 PyProof.Rows

section
variable {prog : Program} {w : World} {A : Around} {E : Value → Shared → Prop} {s : Shared}
theorem collect_tup {t : Addr} {us : List Value} {R : List Value → Shared → Prop} (ht : s.heap.IsTuple t us.toArray) (hz : us.length ≤ sizeLine)
    (k : R us { s with heap := (s.heap.push (seqObj "list" #[] 0)).update s.heap.objs.size (Obj.mapSeq (· ++ us.toArray)) }) : wpAny (model prog w) A (collect (.ref t)) R E s := by
  obtain ⟨ob, eo, ec, m, ed⟩ := id ht
  unfold collect
  have go : wpAny (model prog w) A (runValue (.builtin "proto.collect" ⟨[.ref t], []⟩)) (fun v s' => wpAny (model prog w) A (match v with
      | .ref a => (do match (← load a).data with
        | .seq xs _ => pure xs.toList
        | _ => unsupported "internal:collect")
      | _ => unsupported "internal:collect") R E s') E s := by
    refine wpAny_runValue (codeAny_builtin entry_proto_collect' ?_)
    show wpAny _ _ (do again (.builtin "list.__iadd__" ⟨[← newList [], .ref t], []⟩)) _ _ s
    refine wpAny_bind (wpAny_newList (wpAny_pure ⟨Code.quiet_builtin _ (by decide +kernel), codeAny_builtin entry_list_iadd' ?_⟩))
    show wpAny _ _ (Builtin.List.listExtendWith (.ref s.heap.objs.size) (.ref t) (.ref s.heap.objs.size)) _ _ { s with heap := s.heap.push (seqObj "list" #[] 0) }
    unfold Builtin.List.listExtendWith
    have eo' : (s.heap.push (seqObj "list" #[] 0)).get? t = some ob := Heap.get?_push_of_some _ eo
    refine wpAny_bind (wpAny_typeOf (T := "tuple") ⟨ob, eo', ec⟩ ?_)
    have tt : (Value.type "tuple" == Value.type "tuple") = true := by rfl
    rw [if_pos (by rw [tt]; simp)]
    refine wpAny_bind (listItems_at eo' ed (wpAny_bind (listItems_at (xs := #[]) (n := 0) (Heap.get?_push_size _ rfl) rfl ?_)))
    rw [if_neg (by simp)]
    refine wpAny_bind (listUpdate_at (xs := #[]) (n := 0) (Heap.get?_push_size _ rfl) rfl (wpAny_pure ?_) (Nat.zero_le _) (by show (#[] ++ us.toArray).size ≤ sizeLine + 1; simp only [Array.size_append, List.size_toArray, List.length_nil]; omega))
    show wpAny (model prog w) A (do
      let o ← load s.heap.objs.size
      match o.data with
      | .seq xs _ => pure xs.toList
      | _ => unsupported "internal:collect") R E { s with heap := (s.heap.push (seqObj "list" #[] 0)).update s.heap.objs.size (Obj.mapSeq (· ++ us.toArray)) }
    refine wpAny_bind (wpAny_load (get?_update_seq (Heap.get?_push_size _ rfl) _) (show wpAny _ _ (pure ((#[] : Array Value) ++ us.toArray).toList) R E _ from ?_))
    rw [show ((#[] : Array Value) ++ us.toArray).toList = us by simp]
    exact wpAny_pure k
  exact wpAny_bind go
theorem sort_of_tup {t : Addr} {us : List Value} {Q : Value → Shared → Prop} (ht : s.heap.IsTuple t us.toArray) (hz : us.length ≤ sizeLine)
    (bd : ∀ E' : Value → Shared → Prop, wpAny (model prog w) A.in1.in1 (Builtin.«list.sort» ⟨[.ref (s.heap.objs.size + 1)], []⟩) (fun f s' => f = .done (.ret .none) ∧ Q (.ref (s.heap.objs.size + 1)) s') E' { s with heap := PySem.W.copyHeap s.heap us }) :
    wpAny (model prog w) A (call (.builtin "sorted") [.ref t]) Q E s := by
  refine call_function_entry_kw kind_sorted plain_sorted entry_sorted (args_sorted1 _) ?_
  unfold Builtin.«sorted»
  refine wpAny_bind (m := checkCount "sorted" 1 1 _) (wpAny_pure (wpAny_bind (collect_tup ht hz (wpAny_bind (wpAny_newList ?_ hz)))))
  have sz : ((s.heap.push (seqObj "list" #[] 0)).update s.heap.objs.size (Obj.mapSeq (· ++ us.toArray))).objs.size = s.heap.objs.size + 1 := by
    rw [Heap.size_update, size_push']
  show wpAny _ _ _ _ _ { s with heap := PySem.W.copyHeap s.heap us }
  rw [sz]
  refine wpAny_bind (wpAny_holding (wpAny_call_entry_kw slot_list_sort ⟨_, PySem.W.copyHeap_at s.heap us, rfl⟩ entry_list_sort ?b (args_list_sort _)))
  case b =>
    refine wpAny_mono (show wpAny (model prog w) A.in1.in1 (Builtin.«list.sort» ⟨[.ref (s.heap.objs.size + 1)], []⟩) _ _ _ from bd _) (fun f s' ⟨hf, hq⟩ => ?_) fun _ _ e => e
    subst hf
    exact ⟨_, rfl, wpAny_pure ⟨_, rfl, hq⟩⟩
theorem sort_data_tup {t : Addr} {us : List Value} {l : List PyData} {Rv : Value → PyData → Prop} {Q : Value → Shared → Prop} (ht : s.heap.IsTuple t us.toArray) (e : PySem.W.EachIs Rv us l) (er : PySem.W.EachIs (fun v d => ∃ as, Reads s.heap v (id d) as) us l) (al : PySem.W.AllAlike (l.map id)) (so : PySem.W.Sortable (l.map id)) (hz : l.length ≤ sizeLine)
    (hu : ∀ d, d ∈ l → A.units + 2 + (id d : PyData).depth < cLine) (k : ∀ out, out.length = l.length → PySem.W.EachIs Rv out (l.mergeSort (PySem.W.dataLe false id)) → Q (.ref (s.heap.objs.size + 1)) { s with heap := sortedAll s.heap us (List.toArray out) }) :
    wpAny (model prog w) A (call (.builtin "sorted") [.ref t]) Q E s := by
  have r2 : PySem.W.EachIs (fun v d => ∃ as, Reads (PySem.W.sortingHeap (PySem.W.copyHeap s.heap us) (s.heap.objs.size + 1) us) v (id d) as) us l := er.mono fun _ _ ⟨as, r⟩ => ⟨as, PyProof.Rows.Reads.keeps (fun _ _ => PySem.W.sorting_copy_old) r⟩
  have lu : us.length ≤ sizeLine := by rw [e.length]; exact hz
  refine sort_of_tup ht lu fun _ => PySem.W.list_sort_vals (s := { s with heap := PySem.W.copyHeap s.heap us }) (PySem.W.copyHeap_at s.heap us) (PySem.W.SortsAt.data (s := { s with heap := PySem.W.sortingHeap (PySem.W.copyHeap s.heap us) (s.heap.objs.size + 1) us }) (PySem.W.each_map (R := fun v d => ∃ as, Reads (PySem.W.sortingHeap (PySem.W.copyHeap s.heap us) (s.heap.objs.size + 1) us) v d as) id r2) al so (PySem.W.bound_map hu)) lu ⟨rfl, ?_⟩
  exact k _ (by rw [PySem.W.sortVals_length false rfl]; exact e.length) (PySem.W.sortVals_data false e r2 al)
end
/-- sorted(x): a list or a tuple of alike things -/
def pSort2 : PwP := fun ds Q => match ds with
  | [.list l] => PySem.W.AllAlike l ∧ PySem.W.Sortable l ∧ PyData.plainAll l = true ∧ PyData.depthAll l ≤ 100 ∧ Q (.ol (srtD l))
  | [.tuple l] => PySem.W.AllAlike l ∧ PySem.W.Sortable l ∧ PyData.plainAll l = true ∧ PyData.depthAll l ≤ 100 ∧ Q (.ol (srtD l))
  | _ => False
theorem pSort2_mono : MonoP pSort2 := by
  intro ds Q Q' h q
  unfold pSort2 at q ⊢
  split at q
  · exact let ⟨a, b, c, d, q⟩ := q; ⟨a, b, c, d, h _ q⟩
  · exact let ⟨a, b, c, d, q⟩ := q; ⟨a, b, c, d, h _ q⟩
  · exact q
section
variable {G : Wd} {X : Cx} {W : Av} {H : Hp}
theorem c_sorted2 (hK : X.K = G.K) (hu : X.A.units + 150 < cLine) : CallR X (.builtin "sorted") (rP G pSort2) := by
  intro pins s σ H xs us Q I rx h'
  obtain ⟨W, ds, hW, hv, hq⟩ := h'
  unfold pSort2 at hq
  split at hq
  · exact c_sorted hK hu pins s σ H xs us Q I rx ⟨W, _, hW, hv, hq⟩
  · rename_i l
    obtain ⟨a, rfl, h1⟩ := hv.one
    obtain ⟨p, ys, e1, t1, n1, l1, z1⟩ := h1.tup
    subst e1
    obtain ⟨al, so, pl, dp, hq⟩ := hq
    obtain ⟨its, rv, hl, _⟩ := I.tuple (SqT.of t1)
    have l1' := l1
    rw [← hK] at l1'
    obtain ⟨as, ra⟩ := HasL.reads I _ _ _ pl l1' rv
    rw [vals_ref1 rx]
    refine sort_data_tup (show s.heap.IsTuple p its.toArray from hl) (each_has l1 rv) (reads_each ra) (by simpa using al) (by simpa using so) z1 (fun b hb => by have := depth_mem hb; show X.A.units + 2 + b.depth < cLine; omega) fun out ho he => ?_
    obtain ⟨ys', l2, rv2⟩ := has_each he
    obtain ⟨ep, he'⟩ := PyProof.Rows.sortedAll_at s.heap its out.toArray
    have sl : (srtD l).length ≤ sizeLine := by
      unfold srtD
      rw [List.length_mergeSort]
      exact z1
    exact ⟨.ref _, upd H (s.heap.objs.size + 1) (.lst ys'), I.laid (t' := s.toks) (fun _ _ => PyProof.Rows.sortedAll_old) (Nat.le_succ _) ⟨by rw [l2.length]; exact sl, out, ep, rv2, he'⟩, rfl, hq _ _ _ (.lst hW (I.hok.fresh (Nat.le_succ _)) sl l2)⟩
  · exact hq.elim
variable {T : Xd} {Wx : WX} {k : Nat} {e : Expr} {es : List Expr} {g : WG} {gs : List WG} {p pos : Pos}
theorem bSorted2 (pl : Plc G k Wx X) (hm : X.mg "sorted" = none) (ha : Aa G T Wx X (e :: es) (g :: gs)) (hpl : ∀ pos, (backTo pos (starEach es X.env)).any (·.1) = false := by intro _; rfl) (hg : Gl X "sorted" := by rfl) (he : starEach (e :: es) X.env = (false, eval e X.env) :: starEach es X.env := by rfl) : Ee G T Wx X (.Call (.Name "sorted" p) (e :: es) [] pos) (primW pSort2 (seqA (g :: gs))) :=
  eB (c_sorted2 pl.K pl.un) pSort2_mono hm ha hpl hg (by rfl) (by decide) (by decide) he
end
theorem srt_row (L : List Nat) : PySem.W.AllAlike (dInts L) ∧ PySem.W.Sortable (dInts L) ∧ PyData.plainAll (dInts L) = true ∧ PyData.depthAll (dInts L) ≤ 100 := by
  rw [dInts_map]
  refine ⟨(alike_ints _).1, .inr fun d hd => ?_, plain_intA _, Nat.le_trans (Nat.le_of_eq (depth_ints _)) (by decide)⟩
  obtain ⟨a, _, rfl⟩ := List.mem_map.mp hd
  exact ⟨fun h => (nomatch h), fun xs h => (nomatch h)⟩
/-- a row of places, sorted -/
def srtN (L : List Nat) : List Nat := (srtI (L.map fun n : Nat => (n : Int))).map Int.toNat
theorem srtN_perm (L : List Nat) : (srtN L).Perm L := by
  have q := (srtI_perm (L.map fun n : Nat => (n : Int))).map Int.toNat
  rw [List.map_map] at q
  rw [show (Int.toNat ∘ fun n : Nat => (n : Int)) = id from funext fun n => Int.toNat_natCast n, List.map_id] at q
  exact q
theorem srtN_ints (L : List Nat) : srtD (dInts L) = dInts (srtN L) := by
  have e : ((srtI (L.map fun n : Nat => (n : Int))).map Int.toNat).map (fun n : Nat => (n : Int)) = srtI (L.map fun n : Nat => (n : Int)) := by
    rw [List.map_map]
    conv => rhs; rw [← List.map_id (srtI (L.map fun n : Nat => (n : Int)))]
    refine List.map_congr_left fun x hx => ?_
    obtain ⟨n, _, rfl⟩ := List.mem_map.mp ((srtI_perm (L.map fun n : Nat => (n : Int))).mem_iff.mp hx)
    rfl
  rw [dInts_map, srt_ints, dInts_map (srtN L)]
  unfold srtN
  rw [e]
theorem srtN_le (L : List Nat) : (srtN L).Pairwise (· ≤ ·) := by
  unfold srtN
  rw [List.pairwise_map]
  refine (srtI_le _).imp_of_mem fun {a b} _ _ h => ?_
  omega
theorem srtN_mem {L : List Nat} {x : Nat} : x ∈ srtN L ↔ x ∈ L := (srtN_perm L).mem_iff
theorem srtN_len {L : List Nat} : (srtN L).length = L.length := (srtN_perm L).length_eq
theorem srtN_id {L : List Nat} (h : L.Pairwise (· ≤ ·)) : srtN L = L := List.Perm.eq_of_pairwise (fun a b _ _ h1 h2 => Nat.le_antisymm h1 h2) (srtN_le L) h (srtN_perm L)
theorem srtN_congr {L M : List Nat} (h : L.Perm M) : srtN L = srtN M := List.Perm.eq_of_pairwise (fun a b _ _ h1 h2 => Nat.le_antisymm h1 h2) (srtN_le L) (srtN_le M) ((srtN_perm L).trans (h.trans (srtN_perm M).symm))
theorem pSort2_l {L : List Nat} {Q : R → Prop} (q : Q (.ol (dInts (srtN L)))) : pSort2 [.list (dInts L)] Q :=
  ⟨(srt_row L).1, (srt_row L).2.1, (srt_row L).2.2.1, (srt_row L).2.2.2, by rw [srtN_ints]; exact q⟩
theorem pSort2_t {L : List Nat} {Q : R → Prop} (q : Q (.ol (dInts (srtN L)))) : pSort2 [.tuple (dInts L)] Q :=
  ⟨(srt_row L).1, (srt_row L).2.1, (srt_row L).2.2.1, (srt_row L).2.2.2, by rw [srtN_ints]; exact q⟩
theorem dInts_cat (a b : List Nat) : dInts (a ++ b) = dInts a ++ dInts b := by
  unfold dInts
  rw [List.map_append]
end Pd

/-! Pd34: growing and shrinking in an order. -/
namespace Pd
open PySem L2 PyProof.Rows

theorem pSort2_app {F : List Nat} (more : List Nat) {Q : R → Prop} (q : ∀ L' : List Nat, L'.Perm (F ++ more) → Q (.ol (dInts L'))) : pSort2 [.list (dInts F ++ dInts more)] Q := by
  rw [← dInts_cat]
  exact pSort2_l (q _ (srtN_perm _))
theorem nats_first {L : List Nat} (h : 0 < L.length) : atI (dInts L) 0 = some (.int (L.getD 0 0 : Nat)) := nats_at (i := 0) h
/-! ### rows without repetition -/
theorem nd_len : ∀ {l l' : List Nat}, l.Nodup → (∀ x ∈ l, x ∈ l') → l.length ≤ l'.length
  | [], _, _, _ => Nat.zero_le _
  | x :: l, l', h, s => by
    have hx := s x (by simp)
    have h2 := List.nodup_cons.mp h
    have q := nd_len (l := l) (l' := l'.erase x) h2.2 fun y hy => by
      refine (List.mem_erase_of_ne ?_).mpr (s y (by simp [hy]))
      rintro rfl
      exact h2.1 hy
    rw [List.length_erase_of_mem hx] at q
    have := List.length_pos_of_mem hx
    rw [List.length_cons]
    omega
theorem nd_lt {l l' : List Nat} {x : Nat} (h : l.Nodup) (s : ∀ x ∈ l, x ∈ l') (hx : x ∈ l') (nx : x ∉ l) : l.length < l'.length :=
  nd_len (l := x :: l) (List.nodup_cons.mpr ⟨nx, h⟩) fun y hy => by
    rcases List.mem_cons.mp hy with rfl | hy
    · exact hx
    · exact s y hy
theorem nd_snoc {l : List Nat} {x : Nat} (h : l.Nodup) (nx : x ∉ l) : (l ++ [x]).Nodup := by
  rw [List.nodup_append]
  refine ⟨h, by simp, fun a ha b hb => ?_⟩
  rw [List.mem_singleton.mp hb]
  rintro rfl
  exact nx ha
theorem jumpsOf_gt : ∀ {sk : Sk} {k j : Nat}, j ∈ jumpsOf k sk → k ≤ j := fun h => (mem_jumps h).1
theorem jumpsOf_lt : ∀ (sk : Sk) (k : Nat), (jumpsOf k sk).Pairwise (· < ·)
  | [], _ => .nil
  | .jump _ _ _ :: sk, k => List.Pairwise.cons (fun a ha => by have := jumpsOf_gt ha; omega) (jumpsOf_lt sk (k + 1))
  | .fill _ :: sk, k => jumpsOf_lt sk (k + 1)
  | .label :: sk, k => jumpsOf_lt sk (k + 1)
theorem jumps_nd (sk : Sk) : (jumpsOf 0 sk).Nodup := (jumpsOf_lt sk 0).imp fun h => Nat.ne_of_lt h
theorem sub_lt {sk : Sk} {ch : List Nat} (h : ch.Sublist (jumpsOf 0 sk)) : ch.Pairwise (· < ·) := List.Pairwise.sublist h (jumpsOf_lt sk 0)
theorem sub_le {sk : Sk} {ch : List Nat} (h : ch.Sublist (jumpsOf 0 sk)) : ch.Pairwise (· ≤ ·) := (sub_lt h).imp fun h => Nat.le_of_lt h
/-! ### stuck hangs on the members of a choice alone -/
theorem flatMap_eq {α β : Type} {f g : α → List β} : ∀ {l : List α}, (∀ x ∈ l, f x = g x) → l.flatMap f = l.flatMap g
  | [], _ => rfl
  | x :: l, h => by
    rw [List.flatMap_cons, List.flatMap_cons, h x (by simp), flatMap_eq (l := l) fun y hy => h y (by simp [hy])]
theorem stuck_congr {sk : Sk} {ls rs : List Int} {ch ch' : List Nat} (h : ∀ c, c ∈ ch ↔ c ∈ ch') : stuckOf sk ls rs ch = stuckOf sk ls rs ch' := by
  unfold stuckOf
  refine flatMap_eq fun p _ => ?_
  unfold stuckG
  rw [contains_iff (h p.1), wayOf_congr fun c _ => h c]
theorem stuck_srt {sk : Sk} {ls rs : List Int} {ch : List Nat} : stuckOf sk ls rs (srtN ch) = stuckOf sk ls rs ch := stuck_congr fun _ => srtN_mem
theorem stuck_jump {sk : Sk} {ls rs : List Int} {ch : List Nat} {j : Nat} (h : j ∈ stuckOf sk ls rs ch) : j ∈ jumpsOf 0 sk := stuck_sub.subset h
theorem stuck_out {sk : Sk} {ls rs : List Int} {ch : List Nat} {j : Nat} (h : j ∈ stuckOf sk ls rs ch) : j ∉ ch := (mem_stuck.mp h).choose_spec.2.1
/-! ### growing -/
/-- the first of an order in a row -/
def firstIn (ord st : List Nat) : Nat := (ord.filter fun j => st.contains j).getD 0 0
theorem firstIn_mem {ord st : List Nat} (h : st.isEmpty = false) (s : ∀ j ∈ st, j ∈ ord) : 0 < (ord.filter fun j => st.contains j).length ∧ firstIn ord st ∈ st := by
  cases st with
  | nil => cases h
  | cons a r =>
    have ha : a ∈ ord.filter fun j => (a :: r).contains j := List.mem_filter.mpr ⟨s a (by simp), by simp⟩
    have hl := List.length_pos_of_mem ha
    refine ⟨hl, ?_⟩
    unfold firstIn
    rw [List.getD_eq_getElem?_getD, List.getElem?_eq_getElem hl]
    have := List.mem_filter.mp (List.getElem_mem hl)
    exact List.contains_iff_mem.mp this.2
def growGo (sk : Sk) (ls rs : List Int) (ord : List Nat) : Nat → List Nat → List Nat
  | 0, row => row
  | n + 1, row => if (stuckOf sk ls rs row).isEmpty = true then row else growGo sk ls rs ord n (row ++ [firstIn ord (stuckOf sk ls rs row)])
def growRow (sk : Sk) (ls rs : List Int) (ord : List Nat) : List Nat := growGo sk ls rs ord (jumpsOf 0 sk).length []
/-- a part of a row of growing -/
structure GrI (sk : Sk) (ls rs : List Int) (ord : List Nat) (n : Nat) (row : List Nat) : Prop where
  nd : row.Nodup
  sub : ∀ j ∈ row, j ∈ jumpsOf 0 sk
  len : n + row.length = (jumpsOf 0 sk).length
  go : growGo sk ls rs ord n row = growRow sk ls rs ord
section
variable {sk : Sk} {ls rs : List Int} {ord row : List Nat} {n : Nat}
theorem GrI.start : GrI sk ls rs ord (jumpsOf 0 sk).length [] := ⟨List.nodup_nil, fun _ h => (nomatch h), rfl, rfl⟩
theorem GrI.done (h : GrI sk ls rs ord n row) (e : (stuckOf sk ls rs row).isEmpty = true) : growRow sk ls rs ord = row := by
  rw [← h.go]
  cases n with
  | zero => rfl
  | succ n =>
    unfold growGo
    rw [if_pos e]
theorem GrI.step (h : GrI sk ls rs ord n row) (e : (stuckOf sk ls rs row).isEmpty = false) (ho : ∀ j ∈ jumpsOf 0 sk, j ∈ ord) : ∃ m, n = m + 1 ∧ GrI sk ls rs ord m (row ++ [firstIn ord (stuckOf sk ls rs row)]) := by
  have f := (firstIn_mem e fun j hj => ho j (stuck_jump hj)).2
  have fj := stuck_jump f
  have fo := stuck_out f
  have l := nd_lt h.nd h.sub fj fo
  have hl := h.len
  cases n with
  | zero => omega
  | succ m =>
    refine ⟨m, rfl, nd_snoc h.nd fo, fun j hj => ?_, by rw [List.length_append, List.length_singleton]; omega, ?_⟩
    · rcases List.mem_append.mp hj with hj | hj
      · exact h.sub j hj
      · rw [List.mem_singleton.mp hj]; exact fj
    · rw [← h.go]
      conv => rhs; unfold growGo
      rw [if_neg (by rw [e]; decide)]
/-- a row is one of growing -/
def rowGo (sk : Sk) (ls rs : List Int) : List Nat → List Nat → Bool
  | ch, [] => (stuckOf sk ls rs ch).isEmpty
  | ch, j :: r => (stuckOf sk ls rs ch).contains j && rowGo sk ls rs (ch ++ [j]) r
theorem rowGo_congr : ∀ {r ch ch' : List Nat}, (∀ c, c ∈ ch ↔ c ∈ ch') → rowGo sk ls rs ch r = rowGo sk ls rs ch' r
  | [], ch, ch', h => by
    unfold rowGo
    rw [stuck_congr h]
  | j :: r, ch, ch', h => by
    unfold rowGo
    rw [stuck_congr h, rowGo_congr (r := r) (ch := ch ++ [j]) (ch' := ch' ++ [j]) fun c => by rw [List.mem_append, List.mem_append, h c]]
theorem GrI.all (ho : ∀ j ∈ jumpsOf 0 sk, j ∈ ord) : ∀ {n : Nat} {row : List Nat}, GrI sk ls rs ord n row → ∃ r, growRow sk ls rs ord = row ++ r ∧ rowGo sk ls rs row r = true ∧ (growRow sk ls rs ord).Nodup ∧ (∀ j ∈ growRow sk ls rs ord, j ∈ jumpsOf 0 sk) ∧ (stuckOf sk ls rs (growRow sk ls rs ord)).isEmpty = true
  | 0, row, h => by
    have e : (stuckOf sk ls rs row).isEmpty = true := by
      cases q : (stuckOf sk ls rs row).isEmpty with
      | true => rfl
      | false =>
        obtain ⟨m, e, _⟩ := h.step q ho
        cases e
    have d := h.done e
    refine ⟨[], by rw [d, List.append_nil], ?_, by rw [d]; exact h.nd, by rw [d]; exact h.sub, by rw [d]; exact e⟩
    unfold rowGo
    exact e
  | n + 1, row, h => by
    cases q : (stuckOf sk ls rs row).isEmpty with
    | true =>
      have d := h.done q
      refine ⟨[], by rw [d, List.append_nil], ?_, by rw [d]; exact h.nd, by rw [d]; exact h.sub, by rw [d]; exact q⟩
      unfold rowGo
      exact q
    | false =>
      obtain ⟨m, e, h2⟩ := h.step q ho
      cases e
      obtain ⟨r, h3, h4, h5, h6, h7⟩ := GrI.all ho h2
      refine ⟨firstIn ord (stuckOf sk ls rs row) :: r, by rw [h3]; simp, ?_, h5, h6, h7⟩
      unfold rowGo
      rw [h4, List.contains_iff_mem.mpr (firstIn_mem q fun j hj => ho j (stuck_jump hj)).2]
      rfl
theorem grow_all (ho : ∀ j ∈ jumpsOf 0 sk, j ∈ ord) : rowGo sk ls rs [] (growRow sk ls rs ord) = true ∧ (growRow sk ls rs ord).Nodup ∧ (∀ j ∈ growRow sk ls rs ord, j ∈ jumpsOf 0 sk) ∧ (stuckOf sk ls rs (growRow sk ls rs ord)).isEmpty = true := by
  obtain ⟨r, h1, h2, h3, h4, h5⟩ := GrI.all ho (GrI.start (sk := sk) (ls := ls) (rs := rs) (ord := ord))
  rw [List.nil_append] at h1
  exact ⟨by rw [h1]; exact h2, h3, h4, h5⟩
theorem grow_len (ho : ∀ j ∈ jumpsOf 0 sk, j ∈ ord) : (growRow sk ls rs ord).length ≤ (jumpsOf 0 sk).length := nd_len (grow_all ho).2.1 (grow_all ho).2.2.1
end
end Pd

namespace Pd
open PySem L2 PyProof.Rows
def top (i : Nat) : Stmt := PySem.Challenge.pw_longernearer_k12_whole_what_serves_and_i.main.body.getD i (.Pass ⟨0, 0, 0, 0⟩)
abbrev s_jumps_of : Stmt := top 1
abbrev s_bytes_at : Stmt := top 3
abbrev s_laid : Stmt := top 4
abbrev s_way_between : Stmt := top 5
abbrev s_stuck : Stmt := top 6
abbrev s_serves : Stmt := top 7
abbrev s__law_stock : Stmt := top 9
abbrev s__law_draw : Stmt := top 10
abbrev s__law_pick : Stmt := top 11
abbrev s__law_words : Stmt := top 12
abbrev s__law_skeleton : Stmt := top 13
abbrev s__law_jumps : Stmt := top 14
abbrev s__law_laying : Stmt := top 15
abbrev s__law_way : Stmt := top 16
abbrev s__law_lengths : Stmt := top 17
abbrev s__law_some : Stmt := top 18
abbrev s__law_program : Stmt := top 19
abbrev s__law_held : Stmt := top 20
abbrev s__law_is_told : Stmt := top 21
abbrev s__law_is_just : Stmt := top 22
abbrev s_law : Stmt := top 23
theorem sc_jumps_of : FnScope ["skeleton", "place", "item"] ["skeleton"] (defScope s_jumps_of) := ⟨rfl, rfl, rfl, by decide +kernel, rfl, by decide +kernel, by decide +kernel⟩
theorem sc_bytes_at : FnScope ["item", "place", "is_long"] ["item", "place", "is_long"] (defScope s_bytes_at) := ⟨rfl, rfl, rfl, by decide +kernel, rfl, by decide +kernel, by decide +kernel⟩
theorem sc_laid : FnScope ["skeleton", "lengths", "choice", "found", "here", "place", "item", "begin"] ["skeleton", "lengths", "choice"] (defScope s_laid) := ⟨rfl, rfl, rfl, by decide +kernel, rfl, by decide +kernel, by decide +kernel⟩
theorem sc_way_between : FnScope ["skeleton", "spots", "jump", "goal"] ["skeleton", "spots", "jump"] (defScope s_way_between) := ⟨rfl, rfl, rfl, by decide +kernel, rfl, by decide +kernel, by decide +kernel⟩
theorem sc_stuck : FnScope ["program", "choice", "skeleton", "lengths", "reaches", "spots", "found", "jump", "reach"] ["program", "choice"] (defScope s_stuck) := ⟨rfl, rfl, rfl, by decide +kernel, rfl, by decide +kernel, by decide +kernel⟩
theorem sc_serves : FnScope ["program", "choice"] ["program", "choice"] (defScope s_serves) := ⟨rfl, rfl, rfl, by decide +kernel, rfl, by decide +kernel, by decide +kernel⟩
theorem sc__law_stock : FnScope ["script", "cell", "flat"] ["script"] (defScope s__law_stock) := ⟨rfl, rfl, rfl, by decide +kernel, rfl, by decide +kernel, by decide +kernel⟩
theorem sc__law_draw : FnScope ["stock", "size", "great", "turn", "cell", "blend"] ["stock", "size"] (defScope s__law_draw) := ⟨rfl, rfl, rfl, by decide +kernel, rfl, by decide +kernel, by decide +kernel⟩
theorem sc__law_pick : FnScope ["stock", "row"] ["stock", "row"] (defScope s__law_pick) := ⟨rfl, rfl, rfl, by decide +kernel, rfl, by decide +kernel, by decide +kernel⟩
theorem sc__law_words : FnScope ["stock", "most", "turn"] ["stock", "most"] (defScope s__law_words) := ⟨rfl, rfl, rfl, by decide +kernel, rfl, by decide +kernel, by decide +kernel⟩
theorem sc__law_skeleton : FnScope ["stock", "most", "wide", "words", "place", "word", "jumps", "goals", "found", "small", "brief", "growth", "own", "goal"] ["stock", "most", "wide"] (defScope s__law_skeleton) := ⟨rfl, rfl, rfl, by decide +kernel, rfl, by decide +kernel, by decide +kernel⟩
theorem sc__law_jumps : FnScope ["skeleton", "place", "item"] ["skeleton"] (defScope s__law_jumps) := ⟨rfl, rfl, rfl, by decide +kernel, rfl, by decide +kernel, by decide +kernel⟩
theorem sc__law_laying : FnScope ["skeleton", "lengths", "choice", "here", "found", "place", "item", "begin"] ["skeleton", "lengths", "choice"] (defScope s__law_laying) := ⟨rfl, rfl, rfl, by decide +kernel, rfl, by decide +kernel, by decide +kernel⟩
theorem sc__law_way : FnScope ["skeleton", "lengths", "choice", "jump", "own", "rows", "goal"] ["skeleton", "lengths", "choice", "jump"] (defScope s__law_way) := ⟨rfl, rfl, rfl, by decide +kernel, rfl, by decide +kernel, by decide +kernel⟩
theorem sc__law_lengths : FnScope ["stock", "skeleton", "is_great", "found", "place", "far", "small"] ["stock", "skeleton", "is_great"] (defScope s__law_lengths) := ⟨rfl, rfl, rfl, by decide +kernel, rfl, by decide +kernel, by decide +kernel⟩
theorem sc__law_some : FnScope ["stock", "row", "own"] ["stock", "row"] (defScope s__law_some) := ⟨rfl, rfl, rfl, by decide +kernel, rfl, by decide +kernel, by decide +kernel⟩
theorem sc__law_program : FnScope ["stock", "skeleton", "is_great", "lengths", "jumps", "found", "jump", "way", "reach"] ["stock", "skeleton", "is_great"] (defScope s__law_program) := ⟨rfl, rfl, rfl, by decide +kernel, rfl, by decide +kernel, by decide +kernel⟩
theorem sc__law_held : FnScope ["program", "choice", "skeleton", "lengths", "reaches", "found", "jump", "reach"] ["program", "choice"] (defScope s__law_held) := ⟨rfl, rfl, rfl, by decide +kernel, rfl, by decide +kernel, by decide +kernel⟩
theorem sc__law_is_told : FnScope ["program", "choice", "is_named", "known", "due", "told"] ["program", "choice", "is_named"] (defScope s__law_is_told) := ⟨rfl, rfl, rfl, by decide +kernel, rfl, by decide +kernel, by decide +kernel⟩
theorem sc__law_is_just : FnScope ["stock", "program", "choice", "skeleton", "lengths", "reaches", "jumps", "jump", "ways", "spot", "way", "more", "fewer", "told"] ["stock", "program", "choice"] (defScope s__law_is_just) := ⟨rfl, rfl, rfl, by decide +kernel, rfl, by decide +kernel, by decide +kernel⟩
theorem sc_law : FnScope ["script", "stock", "turn", "skeleton", "program", "jumps", "nth", "choice"] ["script"] (defScope s_law) := ⟨rfl, rfl, rfl, by decide +kernel, rfl, by decide +kernel, by decide +kernel⟩
structure Txt (mg : Str → Option Value) : Prop where
  enumerate : mg "enumerate" = none
  int : mg "int" = none
  len : mg "len" = none
  max : mg "max" = none
  min : mg "min" = none
  range : mg "range" = none
  repr : mg "repr" = none
  sum : mg "sum" = none
  tuple : mg "tuple" = none
  zip : mg "zip" = none
abbrev φ_jumps_of : Spc := Det (α := Sk) (fun sk => [.sh (dSk sk)]) (fun sk => sk.length ≤ 1000) (fun sk => .sh (.tuple (dInts (jumpsOf 0 sk))))
theorem φ_jumps_of_mono : MonoS φ_jumps_of := Det_mono
--go: ⟨_, rfl, by have := (‹SkOk _›).1; omega, ?_⟩

def w_jumps_of : WS := seqS (retS (primW pTup (seqA [ofE (compI (enumI (vwG 0)) [1, 2] (tupT [1, 2]) (valT (primW pEq (seqA [ofE (primW pIx (seqA [vwG 2, ofE (conE (.int 0))])), ofE (conE (.str "jump"))]))) (varE 1))]))) nxS
theorem b_jumps_of {P : Program} {w : World} {K : PySem.W.Frag} {mg : Str → Option Value} {base : Heap} {G : Wd} {T : Xd} (z : Txt mg) (f : Addr) (cdv : Value) (A : Around) (outer : List Env) (s : Shared) (H : Hp) (E : XK) (pl : Plc G 0 (fun cls d _ H => E cls d H) (cxD P w K mg base ["skeleton", "place", "item"] "jumps_of" (defScope s_jumps_of) f cdv A outer s H E)) :
    Bs G T (fun cls d _ H => E cls d H) (cxD P w K mg base ["skeleton", "place", "item"] "jumps_of" (defScope s_jumps_of) f cdv A outer s H E) (defBody s_jumps_of) w_jumps_of :=
  (bC (sRet (bTup pl z.tuple (aC (eComp [("place", 1), ("item", 2)] pl sc_jumps_of.nd (iEnumI pl z.enumerate (vG 0)) (fun s H C cl fp pl => ⟨(gT pl (gsC (gN 1 sc_jumps_of.nd) (gsC (gN 2 sc_jumps_of.nd) gsN))), (ts1 (tCmp (cEq pl) (ixE pl (vG 2) kI.g).g kS.g)), (vE 1)⟩)).g aN))) bN)
theorem c_jumps_of (as : List Sl) (Q : R → List Sl → Prop) (E : Exc → List Sl → Prop) (h : φ_jumps_of as Q E) : body 2 w_jumps_of as Q E := by
  obtain ⟨sk, rfl, h1, q⟩ := h
  have hl : (enumD 0 (sk.map dIt)).length = sk.length := by rw [enumD_len, List.length_map]
  (repeat' ((fail_if_success (with_reducible refine ForI.stop ?_)); (fail_if_success (with_reducible refine CompI.stop ?_)); (fail_if_success (with_reducible refine whileI.stop ?_)); first | ((with_reducible refine (id : pEq _ _ → pEq _ _) ?_); first | refine pEq_strT ?_ | refine pEq_int ?_ | refine pEq_str ?_ | refine pEq_nils ?_ | refine pEq_nilt ?_ | fail) | ((with_reducible refine (id : pNe _ _ → pNe _ _) ?_); first | refine pNe_strF ?_ | refine pNe_int ?_ | refine pNe_str ?_ | refine pNe_nils ?_ | refine pNe_nilt ?_ | fail) | ((with_reducible refine (id : pLt _ _ → pLt _ _) ?_); first | refine pLt_int ?_ | fail) | ((with_reducible refine (id : pGt _ _ → pGt _ _) ?_); first | refine pGt_int ?_ | fail) | ((with_reducible refine (id : pLe _ _ → pLe _ _) ?_); first | refine pLe_int ?_ | fail) | ((with_reducible refine (id : pGe _ _ → pGe _ _) ?_); first | refine pGe_int ?_ | fail) | ((with_reducible refine (id : pMul _ _ → pMul _ _) ?_); first | refine ⟨.inl ⟨by omega, by omega⟩, ?_⟩ | refine ⟨.inr ⟨by omega, by omega⟩, ?_⟩ | fail) | ((with_reducible refine (id : pMod _ _ → pMod _ _) ?_); first | refine ⟨_, _, rfl, by omega, ?_⟩ | fail) | ((with_reducible refine (id : pDiv _ _ → pDiv _ _) ?_); first | refine ⟨_, _, rfl, ⟨by omega, by omega⟩, ?_⟩ | fail) | ((with_reducible refine (id : pPow _ _ → pPow _ _) ?_); first | refine ⟨_, _, rfl, ⟨by decide, by decide, by decide⟩, ?_⟩ | fail) | ((with_reducible refine (id : pSub _ _ → pSub _ _) ?_); first | refine ⟨_, _, rfl, ?_⟩ | fail) | ((with_reducible refine (id : pIx _ _ → pIx _ _) ?_); first | refine ⟨_, rfl, ?_⟩ | refine ⟨_, dSk_at (by assumption), ?_⟩ | refine ⟨_, nums_at (by omega), ?_⟩ | refine ⟨_, nats_at (by omega), ?_⟩ | refine ⟨_, nums_first (by omega), ?_⟩ | refine ⟨_, nums_last (by omega), ?_⟩ | fail) | ((with_reducible refine (id : φMake _ _ _ → φMake _ _ _) ?_); first | refine ⟨_, rfl, by omega, ?_⟩ | fail) | ((with_reducible refine (id : pMax _ _ → pMax _ _) ?_); first | refine pMax2 ?_ | fail) | ((with_reducible refine (id : pMin _ _ → pMin _ _) ?_); first | refine pMin2 ?_ | fail) | ((with_reducible refine (id : pSort2 _ _ → pSort2 _ _) ?_); first | refine pSort2_l ?_ | refine pSort2_t ?_ | fail) | ((with_reducible refine (id : pRepr _ _ → pRepr _ _) ?_); first | refine Nice.rp (by assumption) (by decide) (by decide) ?_ | refine (Nice.int (by omega) (by omega)).rp (by decide) (by decide) ?_ | fail) | ((with_reducible refine (id : pSl _ _ → pSl _ _) ?_); first | refine ⟨_, _, rfl, rfl, ?_⟩ | fail) | ((with_reducible refine (id : pIn _ _ → pIn _ _) ?_); first | refine pIn_row (by first | exact .inl rfl | exact .inr rfl | assumption) ?_ | fail) | ((with_reducible refine (id : pNin _ _ → pNin _ _) ?_); first | refine pNin_row (by first | exact .inl rfl | exact .inr rfl | assumption) ?_ | fail) | ((with_reducible refine (id : φDraw _ _ _ → φDraw _ _ _) ?_); first | refine ⟨_, rfl, by first | decide | omega, by first | decide | omega, fun i hi => ?_⟩ | fail) | (refine ⟨(rfl : ltB _ _), ?_⟩; try dsimp only [upds, putBack, backSl, wipeS, keepS, List.set_cons_zero, List.set_cons_succ, getD_s, getD_z, List.cons_append, List.nil_append, List.replicate, List.reduceReplicate, R.sl]) | ((with_reducible refine (id : @ite _ _ _ _ _ → @ite _ _ _ _ _) ?_); first | refine iteT rfl ?_ | refine iteF rfl ?_ | refine iteB (fun hh => ?_) (fun hh => ?_) | refine iteb (fun hh => ?_) (fun hh => ?_) | fail) | ((fail_if_success (with_reducible refine (id : pEq _ _ → pEq _ _) ?_)); (fail_if_success (with_reducible refine (id : pNe _ _ → pNe _ _) ?_)); (fail_if_success (with_reducible refine (id : pLt _ _ → pLt _ _) ?_)); (fail_if_success (with_reducible refine (id : pGt _ _ → pGt _ _) ?_)); (fail_if_success (with_reducible refine (id : pLe _ _ → pLe _ _) ?_)); (fail_if_success (with_reducible refine (id : pGe _ _ → pGe _ _) ?_)); (fail_if_success (with_reducible refine (id : pMul _ _ → pMul _ _) ?_)); (fail_if_success (with_reducible refine (id : pMod _ _ → pMod _ _) ?_)); (fail_if_success (with_reducible refine (id : pDiv _ _ → pDiv _ _) ?_)); (fail_if_success (with_reducible refine (id : pPow _ _ → pPow _ _) ?_)); (fail_if_success (with_reducible refine (id : pSub _ _ → pSub _ _) ?_)); (fail_if_success (with_reducible refine (id : pIx _ _ → pIx _ _) ?_)); (fail_if_success (with_reducible refine (id : φMake _ _ _ → φMake _ _ _) ?_)); (fail_if_success (with_reducible refine (id : pMax _ _ → pMax _ _) ?_)); (fail_if_success (with_reducible refine (id : pMin _ _ → pMin _ _) ?_)); (fail_if_success (with_reducible refine (id : pSort2 _ _ → pSort2 _ _) ?_)); (fail_if_success (with_reducible refine (id : pRepr _ _ → pRepr _ _) ?_)); (fail_if_success (with_reducible refine (id : pSl _ _ → pSl _ _) ?_)); (fail_if_success (with_reducible refine (id : pIn _ _ → pIn _ _) ?_)); (fail_if_success (with_reducible refine (id : pNin _ _ → pNin _ _) ?_)); (fail_if_success (with_reducible refine (id : φDraw _ _ _ → φDraw _ _ _) ?_)); first | refine ⟨rfl, ?_⟩ | refine ⟨_, rfl, ?_⟩ | refine ⟨_, rfl, rfl, ?_⟩ | refine ⟨_, _, rfl, ?_⟩ | refine ⟨_, _, rfl, rfl, ?_⟩ | refine ⟨⟨_, _, rfl⟩, ?_⟩ | refine ⟨_, _, _, rfl, rfl, ?_⟩ | refine ⟨_, _, _, rfl, ?_⟩ | refine And.intro (by omega) ?_ | refine And.intro ⟨by omega, by omega⟩ ?_ | refine And.intro (by assumption) ?_ | refine And.intro (sz (by first | omega | (simp only [List.length_append, List.length_cons, List.length_nil, List.length_map, dInts_len, List.length_set]; omega))) ?_ | refine And.intro (szl (by first | omega | (simp only [List.length_append, List.length_cons, List.length_nil, List.length_map, dInts_len, List.length_set]; omega))) ?_ | fail) | fail))
  refine comp_goE gJump (enum_jumps sk 0) trivial ?_ ?_
  · intro d hd K k
    obtain ⟨i, x, rfl, _, _, hx⟩ := mem_enumD hd
    obtain ⟨it, _, rfl⟩ := List.mem_map.mp hx
    cases it with
    | jump g b l => (repeat' ((fail_if_success (with_reducible refine ForI.stop ?_)); (fail_if_success (with_reducible refine CompI.stop ?_)); (fail_if_success (with_reducible refine whileI.stop ?_)); first | ((with_reducible refine (id : pEq _ _ → pEq _ _) ?_); first | refine pEq_strT ?_ | refine pEq_int ?_ | refine pEq_str ?_ | refine pEq_nils ?_ | refine pEq_nilt ?_ | fail) | ((with_reducible refine (id : pNe _ _ → pNe _ _) ?_); first | refine pNe_strF ?_ | refine pNe_int ?_ | refine pNe_str ?_ | refine pNe_nils ?_ | refine pNe_nilt ?_ | fail) | ((with_reducible refine (id : pLt _ _ → pLt _ _) ?_); first | refine pLt_int ?_ | fail) | ((with_reducible refine (id : pGt _ _ → pGt _ _) ?_); first | refine pGt_int ?_ | fail) | ((with_reducible refine (id : pLe _ _ → pLe _ _) ?_); first | refine pLe_int ?_ | fail) | ((with_reducible refine (id : pGe _ _ → pGe _ _) ?_); first | refine pGe_int ?_ | fail) | ((with_reducible refine (id : pMul _ _ → pMul _ _) ?_); first | refine ⟨.inl ⟨by omega, by omega⟩, ?_⟩ | refine ⟨.inr ⟨by omega, by omega⟩, ?_⟩ | fail) | ((with_reducible refine (id : pMod _ _ → pMod _ _) ?_); first | refine ⟨_, _, rfl, by omega, ?_⟩ | fail) | ((with_reducible refine (id : pDiv _ _ → pDiv _ _) ?_); first | refine ⟨_, _, rfl, ⟨by omega, by omega⟩, ?_⟩ | fail) | ((with_reducible refine (id : pPow _ _ → pPow _ _) ?_); first | refine ⟨_, _, rfl, ⟨by decide, by decide, by decide⟩, ?_⟩ | fail) | ((with_reducible refine (id : pSub _ _ → pSub _ _) ?_); first | refine ⟨_, _, rfl, ?_⟩ | fail) | ((with_reducible refine (id : pIx _ _ → pIx _ _) ?_); first | refine ⟨_, rfl, ?_⟩ | refine ⟨_, dSk_at (by assumption), ?_⟩ | refine ⟨_, nums_at (by omega), ?_⟩ | refine ⟨_, nats_at (by omega), ?_⟩ | refine ⟨_, nums_first (by omega), ?_⟩ | refine ⟨_, nums_last (by omega), ?_⟩ | fail) | ((with_reducible refine (id : φMake _ _ _ → φMake _ _ _) ?_); first | refine ⟨_, rfl, by omega, ?_⟩ | fail) | ((with_reducible refine (id : pMax _ _ → pMax _ _) ?_); first | refine pMax2 ?_ | fail) | ((with_reducible refine (id : pMin _ _ → pMin _ _) ?_); first | refine pMin2 ?_ | fail) | ((with_reducible refine (id : pSort2 _ _ → pSort2 _ _) ?_); first | refine pSort2_l ?_ | refine pSort2_t ?_ | fail) | ((with_reducible refine (id : pRepr _ _ → pRepr _ _) ?_); first | refine Nice.rp (by assumption) (by decide) (by decide) ?_ | refine (Nice.int (by omega) (by omega)).rp (by decide) (by decide) ?_ | fail) | ((with_reducible refine (id : pSl _ _ → pSl _ _) ?_); first | refine ⟨_, _, rfl, rfl, ?_⟩ | fail) | ((with_reducible refine (id : pIn _ _ → pIn _ _) ?_); first | refine pIn_row (by first | exact .inl rfl | exact .inr rfl | assumption) ?_ | fail) | ((with_reducible refine (id : pNin _ _ → pNin _ _) ?_); first | refine pNin_row (by first | exact .inl rfl | exact .inr rfl | assumption) ?_ | fail) | ((with_reducible refine (id : φDraw _ _ _ → φDraw _ _ _) ?_); first | refine ⟨_, rfl, by first | decide | omega, by first | decide | omega, fun i hi => ?_⟩ | fail) | (refine ⟨(rfl : ltB _ _), ?_⟩; try dsimp only [upds, putBack, backSl, wipeS, keepS, List.set_cons_zero, List.set_cons_succ, getD_s, getD_z, List.cons_append, List.nil_append, List.replicate, List.reduceReplicate, R.sl]) | ((with_reducible refine (id : @ite _ _ _ _ _ → @ite _ _ _ _ _) ?_); first | refine iteT rfl ?_ | refine iteF rfl ?_ | refine iteB (fun hh => ?_) (fun hh => ?_) | refine iteb (fun hh => ?_) (fun hh => ?_) | fail) | ((fail_if_success (with_reducible refine (id : pEq _ _ → pEq _ _) ?_)); (fail_if_success (with_reducible refine (id : pNe _ _ → pNe _ _) ?_)); (fail_if_success (with_reducible refine (id : pLt _ _ → pLt _ _) ?_)); (fail_if_success (with_reducible refine (id : pGt _ _ → pGt _ _) ?_)); (fail_if_success (with_reducible refine (id : pLe _ _ → pLe _ _) ?_)); (fail_if_success (with_reducible refine (id : pGe _ _ → pGe _ _) ?_)); (fail_if_success (with_reducible refine (id : pMul _ _ → pMul _ _) ?_)); (fail_if_success (with_reducible refine (id : pMod _ _ → pMod _ _) ?_)); (fail_if_success (with_reducible refine (id : pDiv _ _ → pDiv _ _) ?_)); (fail_if_success (with_reducible refine (id : pPow _ _ → pPow _ _) ?_)); (fail_if_success (with_reducible refine (id : pSub _ _ → pSub _ _) ?_)); (fail_if_success (with_reducible refine (id : pIx _ _ → pIx _ _) ?_)); (fail_if_success (with_reducible refine (id : φMake _ _ _ → φMake _ _ _) ?_)); (fail_if_success (with_reducible refine (id : pMax _ _ → pMax _ _) ?_)); (fail_if_success (with_reducible refine (id : pMin _ _ → pMin _ _) ?_)); (fail_if_success (with_reducible refine (id : pSort2 _ _ → pSort2 _ _) ?_)); (fail_if_success (with_reducible refine (id : pRepr _ _ → pRepr _ _) ?_)); (fail_if_success (with_reducible refine (id : pSl _ _ → pSl _ _) ?_)); (fail_if_success (with_reducible refine (id : pIn _ _ → pIn _ _) ?_)); (fail_if_success (with_reducible refine (id : pNin _ _ → pNin _ _) ?_)); (fail_if_success (with_reducible refine (id : φDraw _ _ _ → φDraw _ _ _) ?_)); first | refine ⟨rfl, ?_⟩ | refine ⟨_, rfl, ?_⟩ | refine ⟨_, rfl, rfl, ?_⟩ | refine ⟨_, _, rfl, ?_⟩ | refine ⟨_, _, rfl, rfl, ?_⟩ | refine ⟨⟨_, _, rfl⟩, ?_⟩ | refine ⟨_, _, _, rfl, rfl, ?_⟩ | refine ⟨_, _, _, rfl, ?_⟩ | refine And.intro (by omega) ?_ | refine And.intro ⟨by omega, by omega⟩ ?_ | refine And.intro (by assumption) ?_ | refine And.intro (sz (by first | omega | (simp only [List.length_append, List.length_cons, List.length_nil, List.length_map, dInts_len, List.length_set]; omega))) ?_ | refine And.intro (szl (by first | omega | (simp only [List.length_append, List.length_cons, List.length_nil, List.length_map, dInts_len, List.length_set]; omega))) ?_ | fail) | fail)); exact k
    | fill n => (repeat' ((fail_if_success (with_reducible refine ForI.stop ?_)); (fail_if_success (with_reducible refine CompI.stop ?_)); (fail_if_success (with_reducible refine whileI.stop ?_)); first | ((with_reducible refine (id : pEq _ _ → pEq _ _) ?_); first | refine pEq_strT ?_ | refine pEq_int ?_ | refine pEq_str ?_ | refine pEq_nils ?_ | refine pEq_nilt ?_ | fail) | ((with_reducible refine (id : pNe _ _ → pNe _ _) ?_); first | refine pNe_strF ?_ | refine pNe_int ?_ | refine pNe_str ?_ | refine pNe_nils ?_ | refine pNe_nilt ?_ | fail) | ((with_reducible refine (id : pLt _ _ → pLt _ _) ?_); first | refine pLt_int ?_ | fail) | ((with_reducible refine (id : pGt _ _ → pGt _ _) ?_); first | refine pGt_int ?_ | fail) | ((with_reducible refine (id : pLe _ _ → pLe _ _) ?_); first | refine pLe_int ?_ | fail) | ((with_reducible refine (id : pGe _ _ → pGe _ _) ?_); first | refine pGe_int ?_ | fail) | ((with_reducible refine (id : pMul _ _ → pMul _ _) ?_); first | refine ⟨.inl ⟨by omega, by omega⟩, ?_⟩ | refine ⟨.inr ⟨by omega, by omega⟩, ?_⟩ | fail) | ((with_reducible refine (id : pMod _ _ → pMod _ _) ?_); first | refine ⟨_, _, rfl, by omega, ?_⟩ | fail) | ((with_reducible refine (id : pDiv _ _ → pDiv _ _) ?_); first | refine ⟨_, _, rfl, ⟨by omega, by omega⟩, ?_⟩ | fail) | ((with_reducible refine (id : pPow _ _ → pPow _ _) ?_); first | refine ⟨_, _, rfl, ⟨by decide, by decide, by decide⟩, ?_⟩ | fail) | ((with_reducible refine (id : pSub _ _ → pSub _ _) ?_); first | refine ⟨_, _, rfl, ?_⟩ | fail) | ((with_reducible refine (id : pIx _ _ → pIx _ _) ?_); first | refine ⟨_, rfl, ?_⟩ | refine ⟨_, dSk_at (by assumption), ?_⟩ | refine ⟨_, nums_at (by omega), ?_⟩ | refine ⟨_, nats_at (by omega), ?_⟩ | refine ⟨_, nums_first (by omega), ?_⟩ | refine ⟨_, nums_last (by omega), ?_⟩ | fail) | ((with_reducible refine (id : φMake _ _ _ → φMake _ _ _) ?_); first | refine ⟨_, rfl, by omega, ?_⟩ | fail) | ((with_reducible refine (id : pMax _ _ → pMax _ _) ?_); first | refine pMax2 ?_ | fail) | ((with_reducible refine (id : pMin _ _ → pMin _ _) ?_); first | refine pMin2 ?_ | fail) | ((with_reducible refine (id : pSort2 _ _ → pSort2 _ _) ?_); first | refine pSort2_l ?_ | refine pSort2_t ?_ | fail) | ((with_reducible refine (id : pRepr _ _ → pRepr _ _) ?_); first | refine Nice.rp (by assumption) (by decide) (by decide) ?_ | refine (Nice.int (by omega) (by omega)).rp (by decide) (by decide) ?_ | fail) | ((with_reducible refine (id : pSl _ _ → pSl _ _) ?_); first | refine ⟨_, _, rfl, rfl, ?_⟩ | fail) | ((with_reducible refine (id : pIn _ _ → pIn _ _) ?_); first | refine pIn_row (by first | exact .inl rfl | exact .inr rfl | assumption) ?_ | fail) | ((with_reducible refine (id : pNin _ _ → pNin _ _) ?_); first | refine pNin_row (by first | exact .inl rfl | exact .inr rfl | assumption) ?_ | fail) | ((with_reducible refine (id : φDraw _ _ _ → φDraw _ _ _) ?_); first | refine ⟨_, rfl, by first | decide | omega, by first | decide | omega, fun i hi => ?_⟩ | fail) | (refine ⟨(rfl : ltB _ _), ?_⟩; try dsimp only [upds, putBack, backSl, wipeS, keepS, List.set_cons_zero, List.set_cons_succ, getD_s, getD_z, List.cons_append, List.nil_append, List.replicate, List.reduceReplicate, R.sl]) | ((with_reducible refine (id : @ite _ _ _ _ _ → @ite _ _ _ _ _) ?_); first | refine iteT rfl ?_ | refine iteF rfl ?_ | refine iteB (fun hh => ?_) (fun hh => ?_) | refine iteb (fun hh => ?_) (fun hh => ?_) | fail) | ((fail_if_success (with_reducible refine (id : pEq _ _ → pEq _ _) ?_)); (fail_if_success (with_reducible refine (id : pNe _ _ → pNe _ _) ?_)); (fail_if_success (with_reducible refine (id : pLt _ _ → pLt _ _) ?_)); (fail_if_success (with_reducible refine (id : pGt _ _ → pGt _ _) ?_)); (fail_if_success (with_reducible refine (id : pLe _ _ → pLe _ _) ?_)); (fail_if_success (with_reducible refine (id : pGe _ _ → pGe _ _) ?_)); (fail_if_success (with_reducible refine (id : pMul _ _ → pMul _ _) ?_)); (fail_if_success (with_reducible refine (id : pMod _ _ → pMod _ _) ?_)); (fail_if_success (with_reducible refine (id : pDiv _ _ → pDiv _ _) ?_)); (fail_if_success (with_reducible refine (id : pPow _ _ → pPow _ _) ?_)); (fail_if_success (with_reducible refine (id : pSub _ _ → pSub _ _) ?_)); (fail_if_success (with_reducible refine (id : pIx _ _ → pIx _ _) ?_)); (fail_if_success (with_reducible refine (id : φMake _ _ _ → φMake _ _ _) ?_)); (fail_if_success (with_reducible refine (id : pMax _ _ → pMax _ _) ?_)); (fail_if_success (with_reducible refine (id : pMin _ _ → pMin _ _) ?_)); (fail_if_success (with_reducible refine (id : pSort2 _ _ → pSort2 _ _) ?_)); (fail_if_success (with_reducible refine (id : pRepr _ _ → pRepr _ _) ?_)); (fail_if_success (with_reducible refine (id : pSl _ _ → pSl _ _) ?_)); (fail_if_success (with_reducible refine (id : pIn _ _ → pIn _ _) ?_)); (fail_if_success (with_reducible refine (id : pNin _ _ → pNin _ _) ?_)); (fail_if_success (with_reducible refine (id : φDraw _ _ _ → φDraw _ _ _) ?_)); first | refine ⟨rfl, ?_⟩ | refine ⟨_, rfl, ?_⟩ | refine ⟨_, rfl, rfl, ?_⟩ | refine ⟨_, _, rfl, ?_⟩ | refine ⟨_, _, rfl, rfl, ?_⟩ | refine ⟨⟨_, _, rfl⟩, ?_⟩ | refine ⟨_, _, _, rfl, rfl, ?_⟩ | refine ⟨_, _, _, rfl, ?_⟩ | refine And.intro (by omega) ?_ | refine And.intro ⟨by omega, by omega⟩ ?_ | refine And.intro (by assumption) ?_ | refine And.intro (sz (by first | omega | (simp only [List.length_append, List.length_cons, List.length_nil, List.length_map, dInts_len, List.length_set]; omega))) ?_ | refine And.intro (szl (by first | omega | (simp only [List.length_append, List.length_cons, List.length_nil, List.length_map, dInts_len, List.length_set]; omega))) ?_ | fail) | fail)); exact k
    | label => (repeat' ((fail_if_success (with_reducible refine ForI.stop ?_)); (fail_if_success (with_reducible refine CompI.stop ?_)); (fail_if_success (with_reducible refine whileI.stop ?_)); first | ((with_reducible refine (id : pEq _ _ → pEq _ _) ?_); first | refine pEq_strT ?_ | refine pEq_int ?_ | refine pEq_str ?_ | refine pEq_nils ?_ | refine pEq_nilt ?_ | fail) | ((with_reducible refine (id : pNe _ _ → pNe _ _) ?_); first | refine pNe_strF ?_ | refine pNe_int ?_ | refine pNe_str ?_ | refine pNe_nils ?_ | refine pNe_nilt ?_ | fail) | ((with_reducible refine (id : pLt _ _ → pLt _ _) ?_); first | refine pLt_int ?_ | fail) | ((with_reducible refine (id : pGt _ _ → pGt _ _) ?_); first | refine pGt_int ?_ | fail) | ((with_reducible refine (id : pLe _ _ → pLe _ _) ?_); first | refine pLe_int ?_ | fail) | ((with_reducible refine (id : pGe _ _ → pGe _ _) ?_); first | refine pGe_int ?_ | fail) | ((with_reducible refine (id : pMul _ _ → pMul _ _) ?_); first | refine ⟨.inl ⟨by omega, by omega⟩, ?_⟩ | refine ⟨.inr ⟨by omega, by omega⟩, ?_⟩ | fail) | ((with_reducible refine (id : pMod _ _ → pMod _ _) ?_); first | refine ⟨_, _, rfl, by omega, ?_⟩ | fail) | ((with_reducible refine (id : pDiv _ _ → pDiv _ _) ?_); first | refine ⟨_, _, rfl, ⟨by omega, by omega⟩, ?_⟩ | fail) | ((with_reducible refine (id : pPow _ _ → pPow _ _) ?_); first | refine ⟨_, _, rfl, ⟨by decide, by decide, by decide⟩, ?_⟩ | fail) | ((with_reducible refine (id : pSub _ _ → pSub _ _) ?_); first | refine ⟨_, _, rfl, ?_⟩ | fail) | ((with_reducible refine (id : pIx _ _ → pIx _ _) ?_); first | refine ⟨_, rfl, ?_⟩ | refine ⟨_, dSk_at (by assumption), ?_⟩ | refine ⟨_, nums_at (by omega), ?_⟩ | refine ⟨_, nats_at (by omega), ?_⟩ | refine ⟨_, nums_first (by omega), ?_⟩ | refine ⟨_, nums_last (by omega), ?_⟩ | fail) | ((with_reducible refine (id : φMake _ _ _ → φMake _ _ _) ?_); first | refine ⟨_, rfl, by omega, ?_⟩ | fail) | ((with_reducible refine (id : pMax _ _ → pMax _ _) ?_); first | refine pMax2 ?_ | fail) | ((with_reducible refine (id : pMin _ _ → pMin _ _) ?_); first | refine pMin2 ?_ | fail) | ((with_reducible refine (id : pSort2 _ _ → pSort2 _ _) ?_); first | refine pSort2_l ?_ | refine pSort2_t ?_ | fail) | ((with_reducible refine (id : pRepr _ _ → pRepr _ _) ?_); first | refine Nice.rp (by assumption) (by decide) (by decide) ?_ | refine (Nice.int (by omega) (by omega)).rp (by decide) (by decide) ?_ | fail) | ((with_reducible refine (id : pSl _ _ → pSl _ _) ?_); first | refine ⟨_, _, rfl, rfl, ?_⟩ | fail) | ((with_reducible refine (id : pIn _ _ → pIn _ _) ?_); first | refine pIn_row (by first | exact .inl rfl | exact .inr rfl | assumption) ?_ | fail) | ((with_reducible refine (id : pNin _ _ → pNin _ _) ?_); first | refine pNin_row (by first | exact .inl rfl | exact .inr rfl | assumption) ?_ | fail) | ((with_reducible refine (id : φDraw _ _ _ → φDraw _ _ _) ?_); first | refine ⟨_, rfl, by first | decide | omega, by first | decide | omega, fun i hi => ?_⟩ | fail) | (refine ⟨(rfl : ltB _ _), ?_⟩; try dsimp only [upds, putBack, backSl, wipeS, keepS, List.set_cons_zero, List.set_cons_succ, getD_s, getD_z, List.cons_append, List.nil_append, List.replicate, List.reduceReplicate, R.sl]) | ((with_reducible refine (id : @ite _ _ _ _ _ → @ite _ _ _ _ _) ?_); first | refine iteT rfl ?_ | refine iteF rfl ?_ | refine iteB (fun hh => ?_) (fun hh => ?_) | refine iteb (fun hh => ?_) (fun hh => ?_) | fail) | ((fail_if_success (with_reducible refine (id : pEq _ _ → pEq _ _) ?_)); (fail_if_success (with_reducible refine (id : pNe _ _ → pNe _ _) ?_)); (fail_if_success (with_reducible refine (id : pLt _ _ → pLt _ _) ?_)); (fail_if_success (with_reducible refine (id : pGt _ _ → pGt _ _) ?_)); (fail_if_success (with_reducible refine (id : pLe _ _ → pLe _ _) ?_)); (fail_if_success (with_reducible refine (id : pGe _ _ → pGe _ _) ?_)); (fail_if_success (with_reducible refine (id : pMul _ _ → pMul _ _) ?_)); (fail_if_success (with_reducible refine (id : pMod _ _ → pMod _ _) ?_)); (fail_if_success (with_reducible refine (id : pDiv _ _ → pDiv _ _) ?_)); (fail_if_success (with_reducible refine (id : pPow _ _ → pPow _ _) ?_)); (fail_if_success (with_reducible refine (id : pSub _ _ → pSub _ _) ?_)); (fail_if_success (with_reducible refine (id : pIx _ _ → pIx _ _) ?_)); (fail_if_success (with_reducible refine (id : φMake _ _ _ → φMake _ _ _) ?_)); (fail_if_success (with_reducible refine (id : pMax _ _ → pMax _ _) ?_)); (fail_if_success (with_reducible refine (id : pMin _ _ → pMin _ _) ?_)); (fail_if_success (with_reducible refine (id : pSort2 _ _ → pSort2 _ _) ?_)); (fail_if_success (with_reducible refine (id : pRepr _ _ → pRepr _ _) ?_)); (fail_if_success (with_reducible refine (id : pSl _ _ → pSl _ _) ?_)); (fail_if_success (with_reducible refine (id : pIn _ _ → pIn _ _) ?_)); (fail_if_success (with_reducible refine (id : pNin _ _ → pNin _ _) ?_)); (fail_if_success (with_reducible refine (id : φDraw _ _ _ → φDraw _ _ _) ?_)); first | refine ⟨rfl, ?_⟩ | refine ⟨_, rfl, ?_⟩ | refine ⟨_, rfl, rfl, ?_⟩ | refine ⟨_, _, rfl, ?_⟩ | refine ⟨_, _, rfl, rfl, ?_⟩ | refine ⟨⟨_, _, rfl⟩, ?_⟩ | refine ⟨_, _, _, rfl, rfl, ?_⟩ | refine ⟨_, _, _, rfl, ?_⟩ | refine And.intro (by omega) ?_ | refine And.intro ⟨by omega, by omega⟩ ?_ | refine And.intro (by assumption) ?_ | refine And.intro (sz (by first | omega | (simp only [List.length_append, List.length_cons, List.length_nil, List.length_map, dInts_len, List.length_set]; omega))) ?_ | refine And.intro (szl (by first | omega | (simp only [List.length_append, List.length_cons, List.length_nil, List.length_map, dInts_len, List.length_set]; omega))) ?_ | fail) | fail)); exact k
  · (repeat' ((fail_if_success (with_reducible refine ForI.stop ?_)); (fail_if_success (with_reducible refine CompI.stop ?_)); (fail_if_success (with_reducible refine whileI.stop ?_)); first | ((with_reducible refine (id : pEq _ _ → pEq _ _) ?_); first | refine pEq_strT ?_ | refine pEq_int ?_ | refine pEq_str ?_ | refine pEq_nils ?_ | refine pEq_nilt ?_ | fail) | ((with_reducible refine (id : pNe _ _ → pNe _ _) ?_); first | refine pNe_strF ?_ | refine pNe_int ?_ | refine pNe_str ?_ | refine pNe_nils ?_ | refine pNe_nilt ?_ | fail) | ((with_reducible refine (id : pLt _ _ → pLt _ _) ?_); first | refine pLt_int ?_ | fail) | ((with_reducible refine (id : pGt _ _ → pGt _ _) ?_); first | refine pGt_int ?_ | fail) | ((with_reducible refine (id : pLe _ _ → pLe _ _) ?_); first | refine pLe_int ?_ | fail) | ((with_reducible refine (id : pGe _ _ → pGe _ _) ?_); first | refine pGe_int ?_ | fail) | ((with_reducible refine (id : pMul _ _ → pMul _ _) ?_); first | refine ⟨.inl ⟨by omega, by omega⟩, ?_⟩ | refine ⟨.inr ⟨by omega, by omega⟩, ?_⟩ | fail) | ((with_reducible refine (id : pMod _ _ → pMod _ _) ?_); first | refine ⟨_, _, rfl, by omega, ?_⟩ | fail) | ((with_reducible refine (id : pDiv _ _ → pDiv _ _) ?_); first | refine ⟨_, _, rfl, ⟨by omega, by omega⟩, ?_⟩ | fail) | ((with_reducible refine (id : pPow _ _ → pPow _ _) ?_); first | refine ⟨_, _, rfl, ⟨by decide, by decide, by decide⟩, ?_⟩ | fail) | ((with_reducible refine (id : pSub _ _ → pSub _ _) ?_); first | refine ⟨_, _, rfl, ?_⟩ | fail) | ((with_reducible refine (id : pIx _ _ → pIx _ _) ?_); first | refine ⟨_, rfl, ?_⟩ | refine ⟨_, dSk_at (by assumption), ?_⟩ | refine ⟨_, nums_at (by omega), ?_⟩ | refine ⟨_, nats_at (by omega), ?_⟩ | refine ⟨_, nums_first (by omega), ?_⟩ | refine ⟨_, nums_last (by omega), ?_⟩ | fail) | ((with_reducible refine (id : φMake _ _ _ → φMake _ _ _) ?_); first | refine ⟨_, rfl, by omega, ?_⟩ | fail) | ((with_reducible refine (id : pMax _ _ → pMax _ _) ?_); first | refine pMax2 ?_ | fail) | ((with_reducible refine (id : pMin _ _ → pMin _ _) ?_); first | refine pMin2 ?_ | fail) | ((with_reducible refine (id : pSort2 _ _ → pSort2 _ _) ?_); first | refine pSort2_l ?_ | refine pSort2_t ?_ | fail) | ((with_reducible refine (id : pRepr _ _ → pRepr _ _) ?_); first | refine Nice.rp (by assumption) (by decide) (by decide) ?_ | refine (Nice.int (by omega) (by omega)).rp (by decide) (by decide) ?_ | fail) | ((with_reducible refine (id : pSl _ _ → pSl _ _) ?_); first | refine ⟨_, _, rfl, rfl, ?_⟩ | fail) | ((with_reducible refine (id : pIn _ _ → pIn _ _) ?_); first | refine pIn_row (by first | exact .inl rfl | exact .inr rfl | assumption) ?_ | fail) | ((with_reducible refine (id : pNin _ _ → pNin _ _) ?_); first | refine pNin_row (by first | exact .inl rfl | exact .inr rfl | assumption) ?_ | fail) | ((with_reducible refine (id : φDraw _ _ _ → φDraw _ _ _) ?_); first | refine ⟨_, rfl, by first | decide | omega, by first | decide | omega, fun i hi => ?_⟩ | fail) | (refine ⟨(rfl : ltB _ _), ?_⟩; try dsimp only [upds, putBack, backSl, wipeS, keepS, List.set_cons_zero, List.set_cons_succ, getD_s, getD_z, List.cons_append, List.nil_append, List.replicate, List.reduceReplicate, R.sl]) | ((with_reducible refine (id : @ite _ _ _ _ _ → @ite _ _ _ _ _) ?_); first | refine iteT rfl ?_ | refine iteF rfl ?_ | refine iteB (fun hh => ?_) (fun hh => ?_) | refine iteb (fun hh => ?_) (fun hh => ?_) | fail) | ((fail_if_success (with_reducible refine (id : pEq _ _ → pEq _ _) ?_)); (fail_if_success (with_reducible refine (id : pNe _ _ → pNe _ _) ?_)); (fail_if_success (with_reducible refine (id : pLt _ _ → pLt _ _) ?_)); (fail_if_success (with_reducible refine (id : pGt _ _ → pGt _ _) ?_)); (fail_if_success (with_reducible refine (id : pLe _ _ → pLe _ _) ?_)); (fail_if_success (with_reducible refine (id : pGe _ _ → pGe _ _) ?_)); (fail_if_success (with_reducible refine (id : pMul _ _ → pMul _ _) ?_)); (fail_if_success (with_reducible refine (id : pMod _ _ → pMod _ _) ?_)); (fail_if_success (with_reducible refine (id : pDiv _ _ → pDiv _ _) ?_)); (fail_if_success (with_reducible refine (id : pPow _ _ → pPow _ _) ?_)); (fail_if_success (with_reducible refine (id : pSub _ _ → pSub _ _) ?_)); (fail_if_success (with_reducible refine (id : pIx _ _ → pIx _ _) ?_)); (fail_if_success (with_reducible refine (id : φMake _ _ _ → φMake _ _ _) ?_)); (fail_if_success (with_reducible refine (id : pMax _ _ → pMax _ _) ?_)); (fail_if_success (with_reducible refine (id : pMin _ _ → pMin _ _) ?_)); (fail_if_success (with_reducible refine (id : pSort2 _ _ → pSort2 _ _) ?_)); (fail_if_success (with_reducible refine (id : pRepr _ _ → pRepr _ _) ?_)); (fail_if_success (with_reducible refine (id : pSl _ _ → pSl _ _) ?_)); (fail_if_success (with_reducible refine (id : pIn _ _ → pIn _ _) ?_)); (fail_if_success (with_reducible refine (id : pNin _ _ → pNin _ _) ?_)); (fail_if_success (with_reducible refine (id : φDraw _ _ _ → φDraw _ _ _) ?_)); first | refine ⟨rfl, ?_⟩ | refine ⟨_, rfl, ?_⟩ | refine ⟨_, rfl, rfl, ?_⟩ | refine ⟨_, _, rfl, ?_⟩ | refine ⟨_, _, rfl, rfl, ?_⟩ | refine ⟨⟨_, _, rfl⟩, ?_⟩ | refine ⟨_, _, _, rfl, rfl, ?_⟩ | refine ⟨_, _, _, rfl, ?_⟩ | refine And.intro (by omega) ?_ | refine And.intro ⟨by omega, by omega⟩ ?_ | refine And.intro (by assumption) ?_ | refine And.intro (sz (by first | omega | (simp only [List.length_append, List.length_cons, List.length_nil, List.length_map, dInts_len, List.length_set]; omega))) ?_ | refine And.intro (szl (by first | omega | (simp only [List.length_append, List.length_cons, List.length_nil, List.length_map, dInts_len, List.length_set]; omega))) ?_ | fail) | fail))
    exact q

theorem d_jumps_of {P : Program} {w : World} {K : PySem.W.Frag} {mg : Str → Option Value} {base : Heap} {T : Xd} (z : Txt mg) (W : Wr K mg "jumps_of" s_jumps_of) : Fd P w K mg base (Gs K) T 1 1 "jumps_of" ["skeleton"] [] φ_jumps_of :=
  Fd.of W sc_jumps_of (fun _ _ _ _ _ _ us hl => match us, hl with | [_], _ => rfl) bk0 rfl rfl rfl (fun f cdv A outer s H E pl => b_jumps_of z f cdv A outer s H E pl) c_jumps_of φ_jumps_of_mono
def φ_bytes_at : Spc := fun as Q _ => ∃ (it : It) (p : Int) (lg : Bool), as = [.sh (dIt it), .sh (.int p), .sh (.bool lg)] ∧ FillOk it ∧ Q (.sh (.int (bytesAt it p lg))) as
theorem φ_bytes_at_mono : MonoS φ_bytes_at := fun as Q Q' E E' h _ ⟨it, p, lg, e, e2, q⟩ => ⟨it, p, lg, e, e2, h _ _ q⟩

def w_bytes_at_2 : WS := seqS (retS (ifE (valT (varE 2)) (primW pIx (seqA [vwG 0, ofE (conE (.int 3))])) (primW pIx (seqA [vwG 0, ofE (conE (.int 2))])))) nxS
def w_bytes_at_1a0 : WS := seqS (retS (primW pMod (seqA [ofE (primW pNeg (seqA [vwG 1])), ofE (primW pIx (seqA [vwG 0, ofE (conE (.int 1))]))]))) nxS
def w_bytes_at_1 : WS := seqS (ifS (valT (primW pEq (seqA [ofE (primW pIx (seqA [vwG 0, ofE (conE (.int 0))])), ofE (conE (.str "fill"))]))) (w_bytes_at_1a0) (nxS)) w_bytes_at_2
def w_bytes_at_0a0 : WS := seqS (retS (conE (.int 0))) nxS
def w_bytes_at : WS := seqS (ifS (valT (primW pEq (seqA [ofE (primW pIx (seqA [vwG 0, ofE (conE (.int 0))])), ofE (conE (.str "label"))]))) (w_bytes_at_0a0) (nxS)) w_bytes_at_1
theorem b_bytes_at {P : Program} {w : World} {K : PySem.W.Frag} {mg : Str → Option Value} {base : Heap} {G : Wd} {T : Xd} (z : Txt mg) (f : Addr) (cdv : Value) (A : Around) (outer : List Env) (s : Shared) (H : Hp) (E : XK) (pl : Plc G 0 (fun cls d _ H => E cls d H) (cxD P w K mg base ["item", "place", "is_long"] "bytes_at" (defScope s_bytes_at) f cdv A outer s H E)) :
    Bs G T (fun cls d _ H => E cls d H) (cxD P w K mg base ["item", "place", "is_long"] "bytes_at" (defScope s_bytes_at) f cdv A outer s H E) (defBody s_bytes_at) w_bytes_at :=
  (bC (sIf (tCmp (cEq pl) (ixE pl (vG 0) kI.g).g kS.g) (bC (sRet kI) bN) bN) (bC (sIf (tCmp (cEq pl) (ixE pl (vG 0) kI.g).g kS.g) (bC (sRet (bMod (uNeg (vG 1)).g (ixE pl (vG 0) kI.g).g)) bN) bN) (bC (sRet (eIf (tVal (vE 2)) (ixE pl (vG 0) kI.g) (ixE pl (vG 0) kI.g))) bN)))
theorem c_bytes_at (as : List Sl) (Q : R → List Sl → Prop) (E : Exc → List Sl → Prop) (h : φ_bytes_at as Q E) : body 0 w_bytes_at as Q E := by
  obtain ⟨it, p, lg, rfl, hf, q⟩ := h
  cases it with
  | label => exact ⟨_, rfl, _, rfl, _, rfl, pEq_str ⟨_, rfl, _, rfl, q⟩⟩
  | fill n => exact ⟨_, rfl, _, rfl, _, rfl, pEq_str ⟨_, rfl, _, rfl, _, rfl, _, rfl, pEq_str ⟨_, rfl, _, rfl, _, rfl, _, rfl, _, rfl, _, rfl, _, _, rfl, hf.1, _, rfl, q⟩⟩⟩
  | jump g b l =>
    refine ⟨_, rfl, _, rfl, _, rfl, pEq_str ⟨_, rfl, _, rfl, _, rfl, _, rfl, pEq_str ⟨_, rfl, lg, rfl, ?_⟩⟩⟩
    cases lg with
    | true => exact ⟨_, rfl, _, rfl, _, rfl, q⟩
    | false => exact ⟨_, rfl, _, rfl, _, rfl, q⟩

theorem d_bytes_at {P : Program} {w : World} {K : PySem.W.Frag} {mg : Str → Option Value} {base : Heap} {T : Xd} (z : Txt mg) (W : Wr K mg "bytes_at" s_bytes_at) : Fd P w K mg base (Gs K) T 1 3 "bytes_at" ["item", "place", "is_long"] [] φ_bytes_at :=
  Fd.of W sc_bytes_at (fun _ _ _ _ _ _ us hl => match us, hl with | [_, _, _], _ => rfl) bk0 rfl rfl rfl (fun f cdv A outer s H E pl => b_bytes_at z f cdv A outer s H E pl) c_bytes_at φ_bytes_at_mono
def φ_laid : Spc := fun as Q _ => ∃ (sk : Sk) (ls : List Int) (ch : List Nat) (c : PyData), as = [.sh (dSk sk), .sh (dNums ls), .sh c] ∧ IsRow c ch ∧ sk.length ≤ ls.length ∧ sk.length ≤ 1000 ∧ (∀ it ∈ sk, FillOk it) ∧ Q (.sh (.tuple ((lay ls ch sk).map dSpot))) as
theorem φ_laid_mono : MonoS φ_laid := fun as Q Q' E E' h _ ⟨sk, ls, ch, c, e, e2, e3, e4, e5, q⟩ => ⟨sk, ls, ch, c, e, e2, e3, e4, e5, h _ _ q⟩
--go: ⟨_, _, _, _, rfl, by first | exact .inl rfl | exact .inr rfl | assumption, by omega, by have := (‹SkOk _›).1; omega, (‹SkOk _›).ok, ?_⟩

def w_laid_2 : WS := seqS (retS (primW pTup (seqA [vwG 3]))) nxS
def w_laid_1f2 : WS := seqS (dropS (mthE 3 (seqA [ofE (tupE (seqA [ofE (varE 7), ofE (varE 4)]))]) mApp)) nxS
def w_laid_1f1 : WS := seqS (asgS 4 (primW pAdd (seqA [vwG 7, ofE (callW φ_bytes_at (seqA [ofE (varE 6), ofE (varE 7), ofE (primW pIn (seqA [vwG 5, vwG 2]))]))]))) w_laid_1f2
def w_laid_1f0 : WS := seqS (asgS 7 (primW pAdd (seqA [vwG 4, ofE (primW pIx (seqA [vwG 1, vwG 5]))]))) w_laid_1f1
def w_laid_1 : WS := seqS (forI (enumI (ofE (varE 0))) (tupT [5, 6]) (w_laid_1f0)) w_laid_2
def w_laid : WS := seqS (parS2 3 4 (lstE (seqA [])) (conE (.int 0))) w_laid_1
theorem b_laid {P : Program} {w : World} {K : PySem.W.Frag} {mg : Str → Option Value} {base : Heap} {G : Wd} {T : Xd} (z : Txt mg) (F_bytes_at : Fd P w K mg base G T 1 3 "bytes_at" ["item", "place", "is_long"] [] φ_bytes_at) (f : Addr) (cdv : Value) (A : Around) (outer : List Env) (s : Shared) (H : Hp) (E : XK) (pl : Plc G 1 (fun cls d _ H => E cls d H) (cxD P w K mg base ["skeleton", "lengths", "choice", "found", "here", "place", "item", "begin"] "laid" (defScope s_laid) f cdv A outer s H E)) :
    Bs G T (fun cls d _ H => E cls d H) (cxD P w K mg base ["skeleton", "lengths", "choice", "found", "here", "place", "item", "begin"] "laid" (defScope s_laid) f cdv A outer s H E) (defBody s_laid) w_laid :=
  (bC (sPar2 3 4 pl sc_laid.nd (eLst aN) kI) (bC (sFor pl (iEnumI pl z.enumerate (vE 0).g) (gT pl (gsC (gN 5 sc_laid.nd) (gsC (gN 6 sc_laid.nd) gsN))) (bC (sAsg 7 sc_laid.nd (bAdd pl (vG 4) (ixE pl (vG 1) (vG 5)).g)) (bC (sAsg 4 sc_laid.nd (bAdd pl (vG 7) (eF pl F_bytes_at (ha := (aC (vE 6).g (aC (vE 7).g (aC (eCmp (cIn pl) (vG 5) (vG 2)).g aN))))).g)) (bC (sExpr (mAppend 3 pl (aC (eTup (aC (vE 7).g (aC (vE 4).g aN))).g aN))) bN)))) (bC (sRet (bTup pl z.tuple (aC (vG 3) aN))) bN)))
def LaI (sk : Sk) (ls : List Int) (ch : List Nat) (c : PyData) (rest : List PyData) (ρ : List Sl) : Prop := ∃ (k : Nat) (sr : Sk) (h : Int) (sp : List (Int × Int)) (b5 b6 b7 : Sl), rest = enumD k (sr.map dIt) ∧ ρ = [.sh (dSk sk), .sh (dNums ls), .sh c, .ol false (sp.map dSpot), .sh (.int h), b5, b6, b7] ∧
  sp ++ layGo ls ch k h sr = lay ls ch sk ∧ k + sr.length = sk.length ∧ sp.length = k ∧ ∀ it ∈ sr, FillOk it
theorem c_laid (as : List Sl) (Q : R → List Sl → Prop) (E : Exc → List Sl → Prop) (h : φ_laid as Q E) : body 5 w_laid as Q E := by
  obtain ⟨sk, ls, ch, c, rfl, hc, h1, h2, h3, q⟩ := h
  refine ⟨_, rfl, rfl, rfl, rfl, _, _, rfl, rfl, LaI sk ls ch c, ?_, ?_, ?_⟩
  · exact ⟨0, sk, 0, [], _, _, _, rfl, rfl, rfl, Nat.zero_add _, rfl, h3⟩
  · rintro ρ ⟨k, sr, h, sp, b5, b6, b7, e, rfl, e2, e3, e4, _⟩
    cases sr with
    | cons it sr => exact nomatch e
    | nil =>
      have e2 : sp ++ [] = lay ls ch sk := e2
      rw [List.append_nil] at e2
      subst e2
      exact ⟨_, rfl, _, rfl, q⟩
  · rintro d rest ρ ⟨k, sr, h, sp, b5, b6, b7, e, rfl, e2, e3, e4, hf⟩
    cases sr with
    | nil => exact nomatch e
    | cons it sr =>
      rw [List.map_cons, enumD] at e
      obtain ⟨rfl, rfl⟩ := List.cons.inj e
      have lk : k < ls.length := by rw [List.length_cons] at e3; omega
      refine ⟨_, rfl, rfl, rfl, rfl, _, rfl, _, nums_at lk, _, rfl, rfl, ?_⟩
      refine ⟨_, rfl, pIn_row hc ⟨_, rfl, rfl, it, _, _, rfl, hf it (by simp), _, rfl, rfl, ?_⟩⟩
      refine ⟨⟨_, _, rfl⟩, _, rfl, rfl, _, _, _, rfl, rfl, _, rfl, ?_, ?_⟩
      · rw [List.length_map]
        exact small1000 (by omega)
      · have hm : ∀ p : Int × Int, sp.map dSpot ++ [dSpot p] = (sp ++ [p]).map dSpot := fun p => by rw [List.map_append]; rfl
        refine ⟨k + 1, sr, _, sp ++ [(h + ls.getD k 0, h + ls.getD k 0 + bytesAt it (h + ls.getD k 0) (ch.contains k))], _, _, _, rfl, by rw [← hm]; rfl, ?_, by rw [List.length_cons] at e3; omega, by rw [List.length_append, e4]; rfl, fun x hx => hf x (List.mem_cons_of_mem _ hx)⟩
        rw [← e2, List.append_assoc]
        rfl

theorem d_laid {P : Program} {w : World} {K : PySem.W.Frag} {mg : Str → Option Value} {base : Heap} {T : Xd} (z : Txt mg) (F_bytes_at : Fd P w K mg base (Gs K) T 1 3 "bytes_at" ["item", "place", "is_long"] [] φ_bytes_at) (W : Wr K mg "laid" s_laid) : Fd P w K mg base (Gs K) T 2 3 "laid" ["skeleton", "lengths", "choice"] [] φ_laid :=
  Fd.of W sc_laid (fun _ _ _ _ _ _ us hl => match us, hl with | [_, _, _], _ => rfl) bk0 rfl rfl rfl (fun f cdv A outer s H E pl => b_laid z F_bytes_at f cdv A outer s H E pl) c_laid φ_laid_mono
def φ_way_between : Spc := fun as Q _ => ∃ (sk : Sk) (sp : List (Int × Int)) (j g : Nat) (b l : Int), as = [.sh (dSk sk), .sh (.tuple (sp.map dSpot)), .sh (.int j)] ∧ sk[j]? = some (.jump g b l) ∧ j < sp.length ∧ g < sp.length ∧ Q (.sh (.int (wayB sp j g))) as
theorem φ_way_between_mono : MonoS φ_way_between := fun as Q Q' E E' h _ ⟨sk, sp, j, g, b, l, e, e2, e3, e4, q⟩ => ⟨sk, sp, j, g, b, l, e, e2, e3, e4, h _ _ q⟩
theorem φ_way_between_go {sk : Sk} {ls : List Int} {ch : List Nat} {j g : Nat} {b l : Int} {Q : R → List Sl → Prop} {E : Exc → List Sl → Prop} (hs : SkOk sk) (h1 : sk[j]? = some (.jump g b l)) (q : Q (.sh (.int (wayB (lay ls ch sk) j g))) [.sh (dSk sk), .sh (.tuple ((lay ls ch sk).map dSpot)), .sh (.int j)]) : φ_way_between [.sh (dSk sk), .sh (.tuple ((lay ls ch sk).map dSpot)), .sh (.int j)] Q E :=
  ⟨sk, lay ls ch sk, j, g, b, l, rfl, h1, by rw [lay_len]; exact lt_of_get h1, by rw [lay_len]; exact lt_of_get (hs.2.2 j g b l h1), q⟩
--go: φ_way_between_go (by assumption) (by assumption) ?_

def w_way_between_2 : WS := seqS (retS (primW pSub (seqA [ofE (primW pIx (seqA [ofE (primW pIx (seqA [vwG 1, vwG 2])), ofE (conE (.int 1))])), ofE (primW pIx (seqA [ofE (primW pIx (seqA [vwG 1, vwG 3])), ofE (conE (.int 0))]))]))) nxS
def w_way_between_1a0 : WS := seqS (retS (primW pSub (seqA [ofE (primW pIx (seqA [ofE (primW pIx (seqA [vwG 1, vwG 3])), ofE (conE (.int 0))])), ofE (primW pIx (seqA [ofE (primW pIx (seqA [vwG 1, vwG 2])), ofE (conE (.int 1))]))]))) nxS
def w_way_between_1 : WS := seqS (ifS (valT (primW pGt (seqA [vwG 3, vwG 2]))) (w_way_between_1a0) (nxS)) w_way_between_2
def w_way_between : WS := seqS (asgS 3 (primW pIx (seqA [ofE (primW pIx (seqA [vwG 0, vwG 2])), ofE (conE (.int 1))]))) w_way_between_1
theorem b_way_between {P : Program} {w : World} {K : PySem.W.Frag} {mg : Str → Option Value} {base : Heap} {G : Wd} {T : Xd} (z : Txt mg) (f : Addr) (cdv : Value) (A : Around) (outer : List Env) (s : Shared) (H : Hp) (E : XK) (pl : Plc G 0 (fun cls d _ H => E cls d H) (cxD P w K mg base ["skeleton", "spots", "jump", "goal"] "way_between" (defScope s_way_between) f cdv A outer s H E)) :
    Bs G T (fun cls d _ H => E cls d H) (cxD P w K mg base ["skeleton", "spots", "jump", "goal"] "way_between" (defScope s_way_between) f cdv A outer s H E) (defBody s_way_between) w_way_between :=
  (bC (sAsg 3 sc_way_between.nd (ixE pl (ixE pl (vG 0) (vG 2)).g kI.g)) (bC (sIf (tCmp (cGt pl) (vG 3) (vG 2)) (bC (sRet (bSub (ixE pl (ixE pl (vG 1) (vG 3)).g kI.g).g (ixE pl (ixE pl (vG 1) (vG 2)).g kI.g).g)) bN) bN) (bC (sRet (bSub (ixE pl (ixE pl (vG 1) (vG 2)).g kI.g).g (ixE pl (ixE pl (vG 1) (vG 3)).g kI.g).g)) bN)))
theorem c_way_between (as : List Sl) (Q : R → List Sl → Prop) (E : Exc → List Sl → Prop) (h : φ_way_between as Q E) : body 1 w_way_between as Q E := by
  obtain ⟨sk, sp, j, g, b, l, rfl, h1, hj, hg, q⟩ := h
  refine ⟨_, rfl, _, dSk_at h1, _, rfl, _, rfl, rfl, _, rfl, pGt_int ⟨_, rfl, iteB (fun e => ?_) fun e => ?_⟩⟩
  · rw [show wayB sp j g = _ from if_pos (by omega)] at q
    exact ⟨_, rfl, _, spot_at hg, _, rfl, _, rfl, _, rfl, _, spot_at hj, _, rfl, _, rfl, _, rfl, _, _, rfl, _, rfl, q⟩
  · rw [show wayB sp j g = _ from if_neg (by omega)] at q
    exact ⟨_, rfl, _, spot_at hj, _, rfl, _, rfl, _, rfl, _, spot_at hg, _, rfl, _, rfl, _, rfl, _, _, rfl, _, rfl, q⟩

theorem d_way_between {P : Program} {w : World} {K : PySem.W.Frag} {mg : Str → Option Value} {base : Heap} {T : Xd} (z : Txt mg) (W : Wr K mg "way_between" s_way_between) : Fd P w K mg base (Gs K) T 1 3 "way_between" ["skeleton", "spots", "jump"] [] φ_way_between :=
  Fd.of W sc_way_between (fun _ _ _ _ _ _ us hl => match us, hl with | [_, _, _], _ => rfl) bk0 rfl rfl rfl (fun f cdv A outer s H E pl => b_way_between z f cdv A outer s H E pl) c_way_between φ_way_between_mono
abbrev φ_stuck : Spc := Det (α := Sk × List Int × List Int × List Nat × PyData) (fun (sk, ls, rs, ch, c) => [.sh (dProg sk ls rs), .sh c])
  (fun (sk, ls, rs, ch, c) => SkOk sk ∧ sk.length ≤ ls.length ∧ IsRow c ch ∧ ch.length ≤ 1000) (fun (sk, ls, rs, ch, c) => .sh (.tuple (dInts (stuckOf sk ls rs ch))))
theorem φ_stuck_mono : MonoS φ_stuck := Det_mono
--go: ⟨(_, _, _, _, _), rfl, ⟨by assumption, by omega, by first | exact .inl rfl | exact .inr rfl | assumption, by omega⟩, ?_⟩
--go: ⟨(_, _, _, _, _), rfl, ⟨(‹PrOk _ _ _›).ok, by have := (‹PrOk _ _ _›).ll; omega, by first | exact .inl rfl | exact .inr rfl | assumption, by omega⟩, ?_⟩

def w_stuck_4 : WS := seqS (retS (primW pTup (seqA [vwG 6]))) nxS
def w_stuck_3f0a0 : WS := seqS (dropS (mthE 6 (seqA [ofE (varE 7)]) mApp)) nxS
def w_stuck_3f0 : WS := seqS (ifS (andT (valT (primW pNin (seqA [vwG 7, vwG 1]))) (valT (primW pGt (seqA [ofE (callW φ_way_between (seqA [ofE (varE 2), ofE (varE 5), ofE (varE 7)])), vwG 8])))) (w_stuck_3f0a0) (nxS)) nxS
def w_stuck_3 : WS := seqS (forI (zipI (callW φ_jumps_of (seqA [ofE (varE 2)])) (varE 4)) (tupT [7, 8]) (w_stuck_3f0)) w_stuck_4
def w_stuck_2 : WS := seqS (asgS 6 (lstE (seqA []))) w_stuck_3
def w_stuck_1 : WS := seqS (asgS 5 (callW φ_laid (seqA [ofE (varE 2), ofE (varE 3), ofE (varE 1)]))) w_stuck_2
def w_stuck : WS := seqS (unpS [2, 3, 4] (varE 0)) w_stuck_1
theorem b_stuck {P : Program} {w : World} {K : PySem.W.Frag} {mg : Str → Option Value} {base : Heap} {G : Wd} {T : Xd} (z : Txt mg) (F_laid : Fd P w K mg base G T 2 3 "laid" ["skeleton", "lengths", "choice"] [] φ_laid) (F_jumps_of : Fd P w K mg base G T 1 1 "jumps_of" ["skeleton"] [] φ_jumps_of) (F_way_between : Fd P w K mg base G T 1 3 "way_between" ["skeleton", "spots", "jump"] [] φ_way_between) (f : Addr) (cdv : Value) (A : Around) (outer : List Env) (s : Shared) (H : Hp) (E : XK) (pl : Plc G 2 (fun cls d _ H => E cls d H) (cxD P w K mg base ["program", "choice", "skeleton", "lengths", "reaches", "spots", "found", "jump", "reach"] "stuck" (defScope s_stuck) f cdv A outer s H E)) :
    Bs G T (fun cls d _ H => E cls d H) (cxD P w K mg base ["program", "choice", "skeleton", "lengths", "reaches", "spots", "found", "jump", "reach"] "stuck" (defScope s_stuck) f cdv A outer s H E) (defBody s_stuck) w_stuck :=
  (bC (sUnp (gT pl (gsC (gN 2 sc_stuck.nd) (gsC (gN 3 sc_stuck.nd) (gsC (gN 4 sc_stuck.nd) gsN)))) (vE 0)) (bC (sAsg 5 sc_stuck.nd (eF pl F_laid (ha := (aC (vE 2).g (aC (vE 3).g (aC (vE 1).g aN)))))) (bC (sAsg 6 sc_stuck.nd (eLst aN)) (bC (sFor pl (iZip2 pl z.zip (eF pl F_jumps_of (ha := (aC (vE 2).g aN))) (vE 4)) (gT pl (gsC (gN 7 sc_stuck.nd) (gsC (gN 8 sc_stuck.nd) gsN))) (bC (sIf (tBool (vAnd (tCmp (cNin pl) (vG 7) (vG 1)) (vAnd1 (tCmp (cGt pl) (eF pl F_way_between (ha := (aC (vE 2).g (aC (vE 5).g (aC (vE 7).g aN))))).g (vG 8))))) (bC (sExpr (mAppend 6 pl (aC (vE 7).g aN))) bN) bN) bN)) (bC (sRet (bTup pl z.tuple (aC (vG 6) aN))) bN)))))
theorem c_stuck (as : List Sl) (Q : R → List Sl → Prop) (E : Exc → List Sl → Prop) (h : φ_stuck as Q E) : body 7 w_stuck as Q E := by
  obtain ⟨⟨sk, ls, rs, ch, c⟩, rfl, ⟨hs, hl, hc, hn⟩, q⟩ := h
  dsimp only at q ⊢
  have hz := zip_jr (jumpsOf 0 sk) rs
  have jl := jumps24 hs
  have zl : ((jumpsOf 0 sk).zip rs).length ≤ 24 := by rw [List.length_zip]; omega
  (repeat' ((fail_if_success (with_reducible refine ForI.stop ?_)); (fail_if_success (with_reducible refine CompI.stop ?_)); (fail_if_success (with_reducible refine whileI.stop ?_)); first | ((with_reducible refine (id : φ_way_between _ _ _ → φ_way_between _ _ _) ?_); first | refine φ_way_between_go (by assumption) (by assumption) ?_ | fail) | ((with_reducible refine (id : φ_jumps_of _ _ _ → φ_jumps_of _ _ _) ?_); first | refine ⟨_, rfl, by have := (‹SkOk _›).1; omega, ?_⟩ | fail) | ((with_reducible refine (id : φ_laid _ _ _ → φ_laid _ _ _) ?_); first | refine ⟨_, _, _, _, rfl, by first | exact .inl rfl | exact .inr rfl | assumption, by omega, by have := (‹SkOk _›).1; omega, (‹SkOk _›).ok, ?_⟩ | fail) | ((with_reducible refine (id : pEq _ _ → pEq _ _) ?_); first | refine pEq_strT ?_ | refine pEq_int ?_ | refine pEq_str ?_ | refine pEq_nils ?_ | refine pEq_nilt ?_ | fail) | ((with_reducible refine (id : pNe _ _ → pNe _ _) ?_); first | refine pNe_strF ?_ | refine pNe_int ?_ | refine pNe_str ?_ | refine pNe_nils ?_ | refine pNe_nilt ?_ | fail) | ((with_reducible refine (id : pLt _ _ → pLt _ _) ?_); first | refine pLt_int ?_ | fail) | ((with_reducible refine (id : pGt _ _ → pGt _ _) ?_); first | refine pGt_int ?_ | fail) | ((with_reducible refine (id : pLe _ _ → pLe _ _) ?_); first | refine pLe_int ?_ | fail) | ((with_reducible refine (id : pGe _ _ → pGe _ _) ?_); first | refine pGe_int ?_ | fail) | ((with_reducible refine (id : pMul _ _ → pMul _ _) ?_); first | refine ⟨.inl ⟨by omega, by omega⟩, ?_⟩ | refine ⟨.inr ⟨by omega, by omega⟩, ?_⟩ | fail) | ((with_reducible refine (id : pMod _ _ → pMod _ _) ?_); first | refine ⟨_, _, rfl, by omega, ?_⟩ | fail) | ((with_reducible refine (id : pDiv _ _ → pDiv _ _) ?_); first | refine ⟨_, _, rfl, ⟨by omega, by omega⟩, ?_⟩ | fail) | ((with_reducible refine (id : pPow _ _ → pPow _ _) ?_); first | refine ⟨_, _, rfl, ⟨by decide, by decide, by decide⟩, ?_⟩ | fail) | ((with_reducible refine (id : pSub _ _ → pSub _ _) ?_); first | refine ⟨_, _, rfl, ?_⟩ | fail) | ((with_reducible refine (id : pIx _ _ → pIx _ _) ?_); first | refine ⟨_, rfl, ?_⟩ | refine ⟨_, dSk_at (by assumption), ?_⟩ | refine ⟨_, nums_at (by omega), ?_⟩ | refine ⟨_, nats_at (by omega), ?_⟩ | refine ⟨_, nums_first (by omega), ?_⟩ | refine ⟨_, nums_last (by omega), ?_⟩ | fail) | ((with_reducible refine (id : φMake _ _ _ → φMake _ _ _) ?_); first | refine ⟨_, rfl, by omega, ?_⟩ | fail) | ((with_reducible refine (id : pMax _ _ → pMax _ _) ?_); first | refine pMax2 ?_ | fail) | ((with_reducible refine (id : pMin _ _ → pMin _ _) ?_); first | refine pMin2 ?_ | fail) | ((with_reducible refine (id : pSort2 _ _ → pSort2 _ _) ?_); first | refine pSort2_l ?_ | refine pSort2_t ?_ | fail) | ((with_reducible refine (id : pRepr _ _ → pRepr _ _) ?_); first | refine Nice.rp (by assumption) (by decide) (by decide) ?_ | refine (Nice.int (by omega) (by omega)).rp (by decide) (by decide) ?_ | fail) | ((with_reducible refine (id : pSl _ _ → pSl _ _) ?_); first | refine ⟨_, _, rfl, rfl, ?_⟩ | fail) | ((with_reducible refine (id : pIn _ _ → pIn _ _) ?_); first | refine pIn_row (by first | exact .inl rfl | exact .inr rfl | assumption) ?_ | fail) | ((with_reducible refine (id : pNin _ _ → pNin _ _) ?_); first | refine pNin_row (by first | exact .inl rfl | exact .inr rfl | assumption) ?_ | fail) | ((with_reducible refine (id : φDraw _ _ _ → φDraw _ _ _) ?_); first | refine ⟨_, rfl, by first | decide | omega, by first | decide | omega, fun i hi => ?_⟩ | fail) | (refine ⟨(rfl : ltB _ _), ?_⟩; try dsimp only [upds, putBack, backSl, wipeS, keepS, List.set_cons_zero, List.set_cons_succ, getD_s, getD_z, List.cons_append, List.nil_append, List.replicate, List.reduceReplicate, R.sl]) | ((with_reducible refine (id : @ite _ _ _ _ _ → @ite _ _ _ _ _) ?_); first | refine iteT rfl ?_ | refine iteF rfl ?_ | refine iteB (fun hh => ?_) (fun hh => ?_) | refine iteb (fun hh => ?_) (fun hh => ?_) | fail) | ((fail_if_success (with_reducible refine (id : pEq _ _ → pEq _ _) ?_)); (fail_if_success (with_reducible refine (id : pNe _ _ → pNe _ _) ?_)); (fail_if_success (with_reducible refine (id : pLt _ _ → pLt _ _) ?_)); (fail_if_success (with_reducible refine (id : pGt _ _ → pGt _ _) ?_)); (fail_if_success (with_reducible refine (id : pLe _ _ → pLe _ _) ?_)); (fail_if_success (with_reducible refine (id : pGe _ _ → pGe _ _) ?_)); (fail_if_success (with_reducible refine (id : pMul _ _ → pMul _ _) ?_)); (fail_if_success (with_reducible refine (id : pMod _ _ → pMod _ _) ?_)); (fail_if_success (with_reducible refine (id : pDiv _ _ → pDiv _ _) ?_)); (fail_if_success (with_reducible refine (id : pPow _ _ → pPow _ _) ?_)); (fail_if_success (with_reducible refine (id : pSub _ _ → pSub _ _) ?_)); (fail_if_success (with_reducible refine (id : pIx _ _ → pIx _ _) ?_)); (fail_if_success (with_reducible refine (id : φMake _ _ _ → φMake _ _ _) ?_)); (fail_if_success (with_reducible refine (id : pMax _ _ → pMax _ _) ?_)); (fail_if_success (with_reducible refine (id : pMin _ _ → pMin _ _) ?_)); (fail_if_success (with_reducible refine (id : pSort2 _ _ → pSort2 _ _) ?_)); (fail_if_success (with_reducible refine (id : pRepr _ _ → pRepr _ _) ?_)); (fail_if_success (with_reducible refine (id : pSl _ _ → pSl _ _) ?_)); (fail_if_success (with_reducible refine (id : pIn _ _ → pIn _ _) ?_)); (fail_if_success (with_reducible refine (id : pNin _ _ → pNin _ _) ?_)); (fail_if_success (with_reducible refine (id : φDraw _ _ _ → φDraw _ _ _) ?_)); (fail_if_success (with_reducible refine (id : φ_laid _ _ _ → φ_laid _ _ _) ?_)); (fail_if_success (with_reducible refine (id : φ_jumps_of _ _ _ → φ_jumps_of _ _ _) ?_)); (fail_if_success (with_reducible refine (id : φ_way_between _ _ _ → φ_way_between _ _ _) ?_)); first | refine ⟨rfl, ?_⟩ | refine ⟨_, rfl, ?_⟩ | refine ⟨_, rfl, rfl, ?_⟩ | refine ⟨_, _, rfl, ?_⟩ | refine ⟨_, _, rfl, rfl, ?_⟩ | refine ⟨⟨_, _, rfl⟩, ?_⟩ | refine ⟨_, _, _, rfl, rfl, ?_⟩ | refine ⟨_, _, _, rfl, ?_⟩ | refine And.intro (by omega) ?_ | refine And.intro ⟨by omega, by omega⟩ ?_ | refine And.intro (by assumption) ?_ | refine And.intro (sz (by first | omega | (simp only [List.length_append, List.length_cons, List.length_nil, List.length_map, dInts_len, List.length_set]; omega))) ?_ | refine And.intro (szl (by first | omega | (simp only [List.length_append, List.length_cons, List.length_nil, List.length_map, dInts_len, List.length_set]; omega))) ?_ | fail) | fail))
  refine ForI.acc [6, 7, 8] (fun acc (a, b) => [.ol false (dInts acc), a, b]) dJR ((jumpsOf 0 sk).zip rs) (stuckG sk ls ch) [] (_, _) hz (by rfl) (fun p _ => stuckG_le sk ls ch p) ?_ ?_
  · rintro ⟨b0, b1⟩
    (repeat' ((fail_if_success (with_reducible refine ForI.stop ?_)); (fail_if_success (with_reducible refine CompI.stop ?_)); (fail_if_success (with_reducible refine whileI.stop ?_)); first | ((with_reducible refine (id : φ_way_between _ _ _ → φ_way_between _ _ _) ?_); first | refine φ_way_between_go (by assumption) (by assumption) ?_ | fail) | ((with_reducible refine (id : φ_jumps_of _ _ _ → φ_jumps_of _ _ _) ?_); first | refine ⟨_, rfl, by have := (‹SkOk _›).1; omega, ?_⟩ | fail) | ((with_reducible refine (id : φ_laid _ _ _ → φ_laid _ _ _) ?_); first | refine ⟨_, _, _, _, rfl, by first | exact .inl rfl | exact .inr rfl | assumption, by omega, by have := (‹SkOk _›).1; omega, (‹SkOk _›).ok, ?_⟩ | fail) | ((with_reducible refine (id : pEq _ _ → pEq _ _) ?_); first | refine pEq_strT ?_ | refine pEq_int ?_ | refine pEq_str ?_ | refine pEq_nils ?_ | refine pEq_nilt ?_ | fail) | ((with_reducible refine (id : pNe _ _ → pNe _ _) ?_); first | refine pNe_strF ?_ | refine pNe_int ?_ | refine pNe_str ?_ | refine pNe_nils ?_ | refine pNe_nilt ?_ | fail) | ((with_reducible refine (id : pLt _ _ → pLt _ _) ?_); first | refine pLt_int ?_ | fail) | ((with_reducible refine (id : pGt _ _ → pGt _ _) ?_); first | refine pGt_int ?_ | fail) | ((with_reducible refine (id : pLe _ _ → pLe _ _) ?_); first | refine pLe_int ?_ | fail) | ((with_reducible refine (id : pGe _ _ → pGe _ _) ?_); first | refine pGe_int ?_ | fail) | ((with_reducible refine (id : pMul _ _ → pMul _ _) ?_); first | refine ⟨.inl ⟨by omega, by omega⟩, ?_⟩ | refine ⟨.inr ⟨by omega, by omega⟩, ?_⟩ | fail) | ((with_reducible refine (id : pMod _ _ → pMod _ _) ?_); first | refine ⟨_, _, rfl, by omega, ?_⟩ | fail) | ((with_reducible refine (id : pDiv _ _ → pDiv _ _) ?_); first | refine ⟨_, _, rfl, ⟨by omega, by omega⟩, ?_⟩ | fail) | ((with_reducible refine (id : pPow _ _ → pPow _ _) ?_); first | refine ⟨_, _, rfl, ⟨by decide, by decide, by decide⟩, ?_⟩ | fail) | ((with_reducible refine (id : pSub _ _ → pSub _ _) ?_); first | refine ⟨_, _, rfl, ?_⟩ | fail) | ((with_reducible refine (id : pIx _ _ → pIx _ _) ?_); first | refine ⟨_, rfl, ?_⟩ | refine ⟨_, dSk_at (by assumption), ?_⟩ | refine ⟨_, nums_at (by omega), ?_⟩ | refine ⟨_, nats_at (by omega), ?_⟩ | refine ⟨_, nums_first (by omega), ?_⟩ | refine ⟨_, nums_last (by omega), ?_⟩ | fail) | ((with_reducible refine (id : φMake _ _ _ → φMake _ _ _) ?_); first | refine ⟨_, rfl, by omega, ?_⟩ | fail) | ((with_reducible refine (id : pMax _ _ → pMax _ _) ?_); first | refine pMax2 ?_ | fail) | ((with_reducible refine (id : pMin _ _ → pMin _ _) ?_); first | refine pMin2 ?_ | fail) | ((with_reducible refine (id : pSort2 _ _ → pSort2 _ _) ?_); first | refine pSort2_l ?_ | refine pSort2_t ?_ | fail) | ((with_reducible refine (id : pRepr _ _ → pRepr _ _) ?_); first | refine Nice.rp (by assumption) (by decide) (by decide) ?_ | refine (Nice.int (by omega) (by omega)).rp (by decide) (by decide) ?_ | fail) | ((with_reducible refine (id : pSl _ _ → pSl _ _) ?_); first | refine ⟨_, _, rfl, rfl, ?_⟩ | fail) | ((with_reducible refine (id : pIn _ _ → pIn _ _) ?_); first | refine pIn_row (by first | exact .inl rfl | exact .inr rfl | assumption) ?_ | fail) | ((with_reducible refine (id : pNin _ _ → pNin _ _) ?_); first | refine pNin_row (by first | exact .inl rfl | exact .inr rfl | assumption) ?_ | fail) | ((with_reducible refine (id : φDraw _ _ _ → φDraw _ _ _) ?_); first | refine ⟨_, rfl, by first | decide | omega, by first | decide | omega, fun i hi => ?_⟩ | fail) | (refine ⟨(rfl : ltB _ _), ?_⟩; try dsimp only [upds, putBack, backSl, wipeS, keepS, List.set_cons_zero, List.set_cons_succ, getD_s, getD_z, List.cons_append, List.nil_append, List.replicate, List.reduceReplicate, R.sl]) | ((with_reducible refine (id : @ite _ _ _ _ _ → @ite _ _ _ _ _) ?_); first | refine iteT rfl ?_ | refine iteF rfl ?_ | refine iteB (fun hh => ?_) (fun hh => ?_) | refine iteb (fun hh => ?_) (fun hh => ?_) | fail) | ((fail_if_success (with_reducible refine (id : pEq _ _ → pEq _ _) ?_)); (fail_if_success (with_reducible refine (id : pNe _ _ → pNe _ _) ?_)); (fail_if_success (with_reducible refine (id : pLt _ _ → pLt _ _) ?_)); (fail_if_success (with_reducible refine (id : pGt _ _ → pGt _ _) ?_)); (fail_if_success (with_reducible refine (id : pLe _ _ → pLe _ _) ?_)); (fail_if_success (with_reducible refine (id : pGe _ _ → pGe _ _) ?_)); (fail_if_success (with_reducible refine (id : pMul _ _ → pMul _ _) ?_)); (fail_if_success (with_reducible refine (id : pMod _ _ → pMod _ _) ?_)); (fail_if_success (with_reducible refine (id : pDiv _ _ → pDiv _ _) ?_)); (fail_if_success (with_reducible refine (id : pPow _ _ → pPow _ _) ?_)); (fail_if_success (with_reducible refine (id : pSub _ _ → pSub _ _) ?_)); (fail_if_success (with_reducible refine (id : pIx _ _ → pIx _ _) ?_)); (fail_if_success (with_reducible refine (id : φMake _ _ _ → φMake _ _ _) ?_)); (fail_if_success (with_reducible refine (id : pMax _ _ → pMax _ _) ?_)); (fail_if_success (with_reducible refine (id : pMin _ _ → pMin _ _) ?_)); (fail_if_success (with_reducible refine (id : pSort2 _ _ → pSort2 _ _) ?_)); (fail_if_success (with_reducible refine (id : pRepr _ _ → pRepr _ _) ?_)); (fail_if_success (with_reducible refine (id : pSl _ _ → pSl _ _) ?_)); (fail_if_success (with_reducible refine (id : pIn _ _ → pIn _ _) ?_)); (fail_if_success (with_reducible refine (id : pNin _ _ → pNin _ _) ?_)); (fail_if_success (with_reducible refine (id : φDraw _ _ _ → φDraw _ _ _) ?_)); (fail_if_success (with_reducible refine (id : φ_laid _ _ _ → φ_laid _ _ _) ?_)); (fail_if_success (with_reducible refine (id : φ_jumps_of _ _ _ → φ_jumps_of _ _ _) ?_)); (fail_if_success (with_reducible refine (id : φ_way_between _ _ _ → φ_way_between _ _ _) ?_)); first | refine ⟨rfl, ?_⟩ | refine ⟨_, rfl, ?_⟩ | refine ⟨_, rfl, rfl, ?_⟩ | refine ⟨_, _, rfl, ?_⟩ | refine ⟨_, _, rfl, rfl, ?_⟩ | refine ⟨⟨_, _, rfl⟩, ?_⟩ | refine ⟨_, _, _, rfl, rfl, ?_⟩ | refine ⟨_, _, _, rfl, ?_⟩ | refine And.intro (by omega) ?_ | refine And.intro ⟨by omega, by omega⟩ ?_ | refine And.intro (by assumption) ?_ | refine And.intro (sz (by first | omega | (simp only [List.length_append, List.length_cons, List.length_nil, List.length_map, dInts_len, List.length_set]; omega))) ?_ | refine And.intro (szl (by first | omega | (simp only [List.length_append, List.length_cons, List.length_nil, List.length_map, dInts_len, List.length_set]; omega))) ?_ | fail) | fail))
    exact q
  · rintro ⟨j, r⟩ acc ⟨b0, b1⟩ N hp ha _ hN
    obtain ⟨g, b, l, h1⟩ := jump_at (show j ∈ jumpsOf 0 sk from (zip_mem hp).1)
    have sl : (dInts acc).length < sizeLine := by rw [dInts_len]; exact szl (by simp at ha; omega)
    have e : stuckG sk ls ch (j, r) = if (!ch.contains j) = true ∧ r < wayOf sk ls ch j g then [j] else [] := by unfold stuckG; rw [goal_at h1]
    rw [e] at hN
    have hw : (!ch.contains j) = true → wayB (lay ls ch sk) j g = wayOf sk ls ch j g := way_short
    (repeat' ((fail_if_success (with_reducible refine ForI.stop ?_)); (fail_if_success (with_reducible refine CompI.stop ?_)); (fail_if_success (with_reducible refine whileI.stop ?_)); first | ((with_reducible refine (id : φ_way_between _ _ _ → φ_way_between _ _ _) ?_); first | refine φ_way_between_go (by assumption) (by assumption) ?_ | fail) | ((with_reducible refine (id : φ_jumps_of _ _ _ → φ_jumps_of _ _ _) ?_); first | refine ⟨_, rfl, by have := (‹SkOk _›).1; omega, ?_⟩ | fail) | ((with_reducible refine (id : φ_laid _ _ _ → φ_laid _ _ _) ?_); first | refine ⟨_, _, _, _, rfl, by first | exact .inl rfl | exact .inr rfl | assumption, by omega, by have := (‹SkOk _›).1; omega, (‹SkOk _›).ok, ?_⟩ | fail) | ((with_reducible refine (id : pEq _ _ → pEq _ _) ?_); first | refine pEq_strT ?_ | refine pEq_int ?_ | refine pEq_str ?_ | refine pEq_nils ?_ | refine pEq_nilt ?_ | fail) | ((with_reducible refine (id : pNe _ _ → pNe _ _) ?_); first | refine pNe_strF ?_ | refine pNe_int ?_ | refine pNe_str ?_ | refine pNe_nils ?_ | refine pNe_nilt ?_ | fail) | ((with_reducible refine (id : pLt _ _ → pLt _ _) ?_); first | refine pLt_int ?_ | fail) | ((with_reducible refine (id : pGt _ _ → pGt _ _) ?_); first | refine pGt_int ?_ | fail) | ((with_reducible refine (id : pLe _ _ → pLe _ _) ?_); first | refine pLe_int ?_ | fail) | ((with_reducible refine (id : pGe _ _ → pGe _ _) ?_); first | refine pGe_int ?_ | fail) | ((with_reducible refine (id : pMul _ _ → pMul _ _) ?_); first | refine ⟨.inl ⟨by omega, by omega⟩, ?_⟩ | refine ⟨.inr ⟨by omega, by omega⟩, ?_⟩ | fail) | ((with_reducible refine (id : pMod _ _ → pMod _ _) ?_); first | refine ⟨_, _, rfl, by omega, ?_⟩ | fail) | ((with_reducible refine (id : pDiv _ _ → pDiv _ _) ?_); first | refine ⟨_, _, rfl, ⟨by omega, by omega⟩, ?_⟩ | fail) | ((with_reducible refine (id : pPow _ _ → pPow _ _) ?_); first | refine ⟨_, _, rfl, ⟨by decide, by decide, by decide⟩, ?_⟩ | fail) | ((with_reducible refine (id : pSub _ _ → pSub _ _) ?_); first | refine ⟨_, _, rfl, ?_⟩ | fail) | ((with_reducible refine (id : pIx _ _ → pIx _ _) ?_); first | refine ⟨_, rfl, ?_⟩ | refine ⟨_, dSk_at (by assumption), ?_⟩ | refine ⟨_, nums_at (by omega), ?_⟩ | refine ⟨_, nats_at (by omega), ?_⟩ | refine ⟨_, nums_first (by omega), ?_⟩ | refine ⟨_, nums_last (by omega), ?_⟩ | fail) | ((with_reducible refine (id : φMake _ _ _ → φMake _ _ _) ?_); first | refine ⟨_, rfl, by omega, ?_⟩ | fail) | ((with_reducible refine (id : pMax _ _ → pMax _ _) ?_); first | refine pMax2 ?_ | fail) | ((with_reducible refine (id : pMin _ _ → pMin _ _) ?_); first | refine pMin2 ?_ | fail) | ((with_reducible refine (id : pSort2 _ _ → pSort2 _ _) ?_); first | refine pSort2_l ?_ | refine pSort2_t ?_ | fail) | ((with_reducible refine (id : pRepr _ _ → pRepr _ _) ?_); first | refine Nice.rp (by assumption) (by decide) (by decide) ?_ | refine (Nice.int (by omega) (by omega)).rp (by decide) (by decide) ?_ | fail) | ((with_reducible refine (id : pSl _ _ → pSl _ _) ?_); first | refine ⟨_, _, rfl, rfl, ?_⟩ | fail) | ((with_reducible refine (id : pIn _ _ → pIn _ _) ?_); first | refine pIn_row (by first | exact .inl rfl | exact .inr rfl | assumption) ?_ | fail) | ((with_reducible refine (id : pNin _ _ → pNin _ _) ?_); first | refine pNin_row (by first | exact .inl rfl | exact .inr rfl | assumption) ?_ | fail) | ((with_reducible refine (id : φDraw _ _ _ → φDraw _ _ _) ?_); first | refine ⟨_, rfl, by first | decide | omega, by first | decide | omega, fun i hi => ?_⟩ | fail) | (refine ⟨(rfl : ltB _ _), ?_⟩; try dsimp only [upds, putBack, backSl, wipeS, keepS, List.set_cons_zero, List.set_cons_succ, getD_s, getD_z, List.cons_append, List.nil_append, List.replicate, List.reduceReplicate, R.sl]) | ((with_reducible refine (id : @ite _ _ _ _ _ → @ite _ _ _ _ _) ?_); first | refine iteT rfl ?_ | refine iteF rfl ?_ | refine iteB (fun hh => ?_) (fun hh => ?_) | refine iteb (fun hh => ?_) (fun hh => ?_) | fail) | ((fail_if_success (with_reducible refine (id : pEq _ _ → pEq _ _) ?_)); (fail_if_success (with_reducible refine (id : pNe _ _ → pNe _ _) ?_)); (fail_if_success (with_reducible refine (id : pLt _ _ → pLt _ _) ?_)); (fail_if_success (with_reducible refine (id : pGt _ _ → pGt _ _) ?_)); (fail_if_success (with_reducible refine (id : pLe _ _ → pLe _ _) ?_)); (fail_if_success (with_reducible refine (id : pGe _ _ → pGe _ _) ?_)); (fail_if_success (with_reducible refine (id : pMul _ _ → pMul _ _) ?_)); (fail_if_success (with_reducible refine (id : pMod _ _ → pMod _ _) ?_)); (fail_if_success (with_reducible refine (id : pDiv _ _ → pDiv _ _) ?_)); (fail_if_success (with_reducible refine (id : pPow _ _ → pPow _ _) ?_)); (fail_if_success (with_reducible refine (id : pSub _ _ → pSub _ _) ?_)); (fail_if_success (with_reducible refine (id : pIx _ _ → pIx _ _) ?_)); (fail_if_success (with_reducible refine (id : φMake _ _ _ → φMake _ _ _) ?_)); (fail_if_success (with_reducible refine (id : pMax _ _ → pMax _ _) ?_)); (fail_if_success (with_reducible refine (id : pMin _ _ → pMin _ _) ?_)); (fail_if_success (with_reducible refine (id : pSort2 _ _ → pSort2 _ _) ?_)); (fail_if_success (with_reducible refine (id : pRepr _ _ → pRepr _ _) ?_)); (fail_if_success (with_reducible refine (id : pSl _ _ → pSl _ _) ?_)); (fail_if_success (with_reducible refine (id : pIn _ _ → pIn _ _) ?_)); (fail_if_success (with_reducible refine (id : pNin _ _ → pNin _ _) ?_)); (fail_if_success (with_reducible refine (id : φDraw _ _ _ → φDraw _ _ _) ?_)); (fail_if_success (with_reducible refine (id : φ_laid _ _ _ → φ_laid _ _ _) ?_)); (fail_if_success (with_reducible refine (id : φ_jumps_of _ _ _ → φ_jumps_of _ _ _) ?_)); (fail_if_success (with_reducible refine (id : φ_way_between _ _ _ → φ_way_between _ _ _) ?_)); first | refine ⟨rfl, ?_⟩ | refine ⟨_, rfl, ?_⟩ | refine ⟨_, rfl, rfl, ?_⟩ | refine ⟨_, _, rfl, ?_⟩ | refine ⟨_, _, rfl, rfl, ?_⟩ | refine ⟨⟨_, _, rfl⟩, ?_⟩ | refine ⟨_, _, _, rfl, rfl, ?_⟩ | refine ⟨_, _, _, rfl, ?_⟩ | refine And.intro (by omega) ?_ | refine And.intro ⟨by omega, by omega⟩ ?_ | refine And.intro (by assumption) ?_ | refine And.intro (sz (by first | omega | (simp only [List.length_append, List.length_cons, List.length_nil, List.length_map, dInts_len, List.length_set]; omega))) ?_ | refine And.intro (szl (by first | omega | (simp only [List.length_append, List.length_cons, List.length_nil, List.length_map, dInts_len, List.length_set]; omega))) ?_ | fail) | fail))
    · rw [if_pos ⟨by assumption, by rw [← hw (by assumption)]; assumption⟩] at hN
      simp only [dInts_app] at hN
      exact hN (_, _)
    · rw [if_neg (by rw [← hw (by assumption)]; exact fun h => absurd h.2 (by assumption)), List.append_nil] at hN
      exact hN (_, _)
    · rw [if_neg (by rename_i hh; rw [hh]; exact fun h => nomatch h.1), List.append_nil] at hN
      exact hN (_, _)

theorem d_stuck {P : Program} {w : World} {K : PySem.W.Frag} {mg : Str → Option Value} {base : Heap} {T : Xd} (z : Txt mg) (F_laid : Fd P w K mg base (Gs K) T 2 3 "laid" ["skeleton", "lengths", "choice"] [] φ_laid) (F_jumps_of : Fd P w K mg base (Gs K) T 1 1 "jumps_of" ["skeleton"] [] φ_jumps_of) (F_way_between : Fd P w K mg base (Gs K) T 1 3 "way_between" ["skeleton", "spots", "jump"] [] φ_way_between) (W : Wr K mg "stuck" s_stuck) : Fd P w K mg base (Gs K) T 3 2 "stuck" ["program", "choice"] [["choice", "program"]] φ_stuck :=
  Fd.of W sc_stuck (fun _ _ _ _ _ _ us hl => match us, hl with | [_, _], _ => rfl) (by
    intro ks h
    simp only [List.mem_cons, List.not_mem_nil, or_false] at h
    rcases h with rfl
    all_goals exact fun _ _ _ _ _ _ us hl => match us, hl with | [_, _], _ => rfl) rfl rfl rfl (fun f cdv A outer s H E pl => b_stuck z F_laid F_jumps_of F_way_between f cdv A outer s H E pl) c_stuck φ_stuck_mono
abbrev φ_serves : Spc := Det (α := Sk × List Int × List Int × List Nat × PyData) (fun (sk, ls, rs, ch, c) => [.sh (dProg sk ls rs), .sh c])
  (fun (sk, ls, rs, ch, c) => SkOk sk ∧ sk.length ≤ ls.length ∧ IsRow c ch ∧ ch.length ≤ 1000) (fun (sk, ls, rs, ch, c) => .sh (.bool (stuckOf sk ls rs ch).isEmpty))
theorem φ_serves_mono : MonoS φ_serves := Det_mono
--go: ⟨(_, _, _, _, _), rfl, ⟨by assumption, by omega, by first | exact .inl rfl | exact .inr rfl | assumption, by omega⟩, ?_⟩
--go: ⟨(_, _, _, _, _), rfl, ⟨(‹PrOk _ _ _›).ok, by have := (‹PrOk _ _ _›).ll; omega, by first | exact .inl rfl | exact .inr rfl | assumption, by omega⟩, ?_⟩

def w_serves : WS := seqS (retS (primW pEq (seqA [ofE (callW φ_stuck (seqA [ofE (varE 0), ofE (varE 1)])), ofE (tupE (seqA []))]))) nxS
theorem b_serves {P : Program} {w : World} {K : PySem.W.Frag} {mg : Str → Option Value} {base : Heap} {G : Wd} {T : Xd} (z : Txt mg) (F_stuck : Fd P w K mg base G T 3 2 "stuck" ["program", "choice"] [["choice", "program"]] φ_stuck) (f : Addr) (cdv : Value) (A : Around) (outer : List Env) (s : Shared) (H : Hp) (E : XK) (pl : Plc G 3 (fun cls d _ H => E cls d H) (cxD P w K mg base ["program", "choice"] "serves" (defScope s_serves) f cdv A outer s H E)) :
    Bs G T (fun cls d _ H => E cls d H) (cxD P w K mg base ["program", "choice"] "serves" (defScope s_serves) f cdv A outer s H E) (defBody s_serves) w_serves :=
  (bC (sRet (eCmp (cEq pl) (eF pl F_stuck (ha := (aC (vE 0).g (aC (vE 1).g aN)))).g (eTup aN).g)) bN)
theorem c_serves (as : List Sl) (Q : R → List Sl → Prop) (E : Exc → List Sl → Prop) (h : φ_serves as Q E) : body 0 w_serves as Q E := by
  obtain ⟨⟨sk, ls, rs, ch, c⟩, rfl, ⟨hs, hl, hc, hn⟩, q⟩ := h
  dsimp only at q ⊢
  (repeat' ((fail_if_success (with_reducible refine ForI.stop ?_)); (fail_if_success (with_reducible refine CompI.stop ?_)); (fail_if_success (with_reducible refine whileI.stop ?_)); first | ((with_reducible refine (id : φ_stuck _ _ _ → φ_stuck _ _ _) ?_); first | refine ⟨(_, _, _, _, _), rfl, ⟨by assumption, by omega, by first | exact .inl rfl | exact .inr rfl | assumption, by omega⟩, ?_⟩ | refine ⟨(_, _, _, _, _), rfl, ⟨(‹PrOk _ _ _›).ok, by have := (‹PrOk _ _ _›).ll; omega, by first | exact .inl rfl | exact .inr rfl | assumption, by omega⟩, ?_⟩ | fail) | ((with_reducible refine (id : pEq _ _ → pEq _ _) ?_); first | refine pEq_strT ?_ | refine pEq_int ?_ | refine pEq_str ?_ | refine pEq_nils ?_ | refine pEq_nilt ?_ | fail) | ((with_reducible refine (id : pNe _ _ → pNe _ _) ?_); first | refine pNe_strF ?_ | refine pNe_int ?_ | refine pNe_str ?_ | refine pNe_nils ?_ | refine pNe_nilt ?_ | fail) | ((with_reducible refine (id : pLt _ _ → pLt _ _) ?_); first | refine pLt_int ?_ | fail) | ((with_reducible refine (id : pGt _ _ → pGt _ _) ?_); first | refine pGt_int ?_ | fail) | ((with_reducible refine (id : pLe _ _ → pLe _ _) ?_); first | refine pLe_int ?_ | fail) | ((with_reducible refine (id : pGe _ _ → pGe _ _) ?_); first | refine pGe_int ?_ | fail) | ((with_reducible refine (id : pMul _ _ → pMul _ _) ?_); first | refine ⟨.inl ⟨by omega, by omega⟩, ?_⟩ | refine ⟨.inr ⟨by omega, by omega⟩, ?_⟩ | fail) | ((with_reducible refine (id : pMod _ _ → pMod _ _) ?_); first | refine ⟨_, _, rfl, by omega, ?_⟩ | fail) | ((with_reducible refine (id : pDiv _ _ → pDiv _ _) ?_); first | refine ⟨_, _, rfl, ⟨by omega, by omega⟩, ?_⟩ | fail) | ((with_reducible refine (id : pPow _ _ → pPow _ _) ?_); first | refine ⟨_, _, rfl, ⟨by decide, by decide, by decide⟩, ?_⟩ | fail) | ((with_reducible refine (id : pSub _ _ → pSub _ _) ?_); first | refine ⟨_, _, rfl, ?_⟩ | fail) | ((with_reducible refine (id : pIx _ _ → pIx _ _) ?_); first | refine ⟨_, rfl, ?_⟩ | refine ⟨_, dSk_at (by assumption), ?_⟩ | refine ⟨_, nums_at (by omega), ?_⟩ | refine ⟨_, nats_at (by omega), ?_⟩ | refine ⟨_, nums_first (by omega), ?_⟩ | refine ⟨_, nums_last (by omega), ?_⟩ | fail) | ((with_reducible refine (id : φMake _ _ _ → φMake _ _ _) ?_); first | refine ⟨_, rfl, by omega, ?_⟩ | fail) | ((with_reducible refine (id : pMax _ _ → pMax _ _) ?_); first | refine pMax2 ?_ | fail) | ((with_reducible refine (id : pMin _ _ → pMin _ _) ?_); first | refine pMin2 ?_ | fail) | ((with_reducible refine (id : pSort2 _ _ → pSort2 _ _) ?_); first | refine pSort2_l ?_ | refine pSort2_t ?_ | fail) | ((with_reducible refine (id : pRepr _ _ → pRepr _ _) ?_); first | refine Nice.rp (by assumption) (by decide) (by decide) ?_ | refine (Nice.int (by omega) (by omega)).rp (by decide) (by decide) ?_ | fail) | ((with_reducible refine (id : pSl _ _ → pSl _ _) ?_); first | refine ⟨_, _, rfl, rfl, ?_⟩ | fail) | ((with_reducible refine (id : pIn _ _ → pIn _ _) ?_); first | refine pIn_row (by first | exact .inl rfl | exact .inr rfl | assumption) ?_ | fail) | ((with_reducible refine (id : pNin _ _ → pNin _ _) ?_); first | refine pNin_row (by first | exact .inl rfl | exact .inr rfl | assumption) ?_ | fail) | ((with_reducible refine (id : φDraw _ _ _ → φDraw _ _ _) ?_); first | refine ⟨_, rfl, by first | decide | omega, by first | decide | omega, fun i hi => ?_⟩ | fail) | (refine ⟨(rfl : ltB _ _), ?_⟩; try dsimp only [upds, putBack, backSl, wipeS, keepS, List.set_cons_zero, List.set_cons_succ, getD_s, getD_z, List.cons_append, List.nil_append, List.replicate, List.reduceReplicate, R.sl]) | ((with_reducible refine (id : @ite _ _ _ _ _ → @ite _ _ _ _ _) ?_); first | refine iteT rfl ?_ | refine iteF rfl ?_ | refine iteB (fun hh => ?_) (fun hh => ?_) | refine iteb (fun hh => ?_) (fun hh => ?_) | fail) | ((fail_if_success (with_reducible refine (id : pEq _ _ → pEq _ _) ?_)); (fail_if_success (with_reducible refine (id : pNe _ _ → pNe _ _) ?_)); (fail_if_success (with_reducible refine (id : pLt _ _ → pLt _ _) ?_)); (fail_if_success (with_reducible refine (id : pGt _ _ → pGt _ _) ?_)); (fail_if_success (with_reducible refine (id : pLe _ _ → pLe _ _) ?_)); (fail_if_success (with_reducible refine (id : pGe _ _ → pGe _ _) ?_)); (fail_if_success (with_reducible refine (id : pMul _ _ → pMul _ _) ?_)); (fail_if_success (with_reducible refine (id : pMod _ _ → pMod _ _) ?_)); (fail_if_success (with_reducible refine (id : pDiv _ _ → pDiv _ _) ?_)); (fail_if_success (with_reducible refine (id : pPow _ _ → pPow _ _) ?_)); (fail_if_success (with_reducible refine (id : pSub _ _ → pSub _ _) ?_)); (fail_if_success (with_reducible refine (id : pIx _ _ → pIx _ _) ?_)); (fail_if_success (with_reducible refine (id : φMake _ _ _ → φMake _ _ _) ?_)); (fail_if_success (with_reducible refine (id : pMax _ _ → pMax _ _) ?_)); (fail_if_success (with_reducible refine (id : pMin _ _ → pMin _ _) ?_)); (fail_if_success (with_reducible refine (id : pSort2 _ _ → pSort2 _ _) ?_)); (fail_if_success (with_reducible refine (id : pRepr _ _ → pRepr _ _) ?_)); (fail_if_success (with_reducible refine (id : pSl _ _ → pSl _ _) ?_)); (fail_if_success (with_reducible refine (id : pIn _ _ → pIn _ _) ?_)); (fail_if_success (with_reducible refine (id : pNin _ _ → pNin _ _) ?_)); (fail_if_success (with_reducible refine (id : φDraw _ _ _ → φDraw _ _ _) ?_)); (fail_if_success (with_reducible refine (id : φ_stuck _ _ _ → φ_stuck _ _ _) ?_)); first | refine ⟨rfl, ?_⟩ | refine ⟨_, rfl, ?_⟩ | refine ⟨_, rfl, rfl, ?_⟩ | refine ⟨_, _, rfl, ?_⟩ | refine ⟨_, _, rfl, rfl, ?_⟩ | refine ⟨⟨_, _, rfl⟩, ?_⟩ | refine ⟨_, _, _, rfl, rfl, ?_⟩ | refine ⟨_, _, _, rfl, ?_⟩ | refine And.intro (by omega) ?_ | refine And.intro ⟨by omega, by omega⟩ ?_ | refine And.intro (by assumption) ?_ | refine And.intro (sz (by first | omega | (simp only [List.length_append, List.length_cons, List.length_nil, List.length_map, dInts_len, List.length_set]; omega))) ?_ | refine And.intro (szl (by first | omega | (simp only [List.length_append, List.length_cons, List.length_nil, List.length_map, dInts_len, List.length_set]; omega))) ?_ | fail) | fail))
  exact q

theorem d_serves {P : Program} {w : World} {K : PySem.W.Frag} {mg : Str → Option Value} {base : Heap} {T : Xd} (z : Txt mg) (F_stuck : Fd P w K mg base (Gs K) T 3 2 "stuck" ["program", "choice"] [["choice", "program"]] φ_stuck) (W : Wr K mg "serves" s_serves) : Fd P w K mg base (Gs K) T 4 2 "serves" ["program", "choice"] [["choice", "program"]] φ_serves :=
  Fd.of W sc_serves (fun _ _ _ _ _ _ us hl => match us, hl with | [_, _], _ => rfl) (by
    intro ks h
    simp only [List.mem_cons, List.not_mem_nil, or_false] at h
    rcases h with rfl
    all_goals exact fun _ _ _ _ _ _ us hl => match us, hl with | [_, _], _ => rfl) rfl rfl rfl (fun f cdv A outer s H E pl => b_serves z F_stuck f cdv A outer s H E pl) c_serves φ_serves_mono
abbrev φ__law_stock := φMake
theorem φ__law_stock_mono : MonoS φ__law_stock := φMake_mono
def w__law_stock_1 : WS := seqS (retS (stkE (compI (seqI (vwG 2)) [1] (nameT 1) (valT (primW pGe (seqA [vwG 1, ofE (primW pPow (seqA [ofE (conE (.int 10)), ofE (conE (.int 15))]))]))) (varE 1)) (primW pAdd (seqA [vwG 2, ofE (lstE (seqA [ofE (primW pAdd (seqA [ofE (primW pLen (seqA [vwG 2])), ofE (conE (.int 918))]))]))])) (primW pSum (seqA [vwG 2])) (conE (.int 0)))) nxS
def w__law_stock : WS := seqS (asgS 2 (compI (seqI (ofE (scrE 0 (conE (.int 63))))) [1] (nameT 1) (yesT) (ifE (valT (primW pGe (seqA [vwG 1, ofE (conE (.int 0))]))) (primW pMul (seqA [ofE (conE (.int 2)), vwG 1])) (primW pSub (seqA [ofE (primW pMul (seqA [ofE (primW pNeg (seqA [ofE (conE (.int 2))])), vwG 1])), ofE (conE (.int 1))]))))) w__law_stock_1
theorem b__law_stock {P : Program} {w : World} {K : PySem.W.Frag} {mg : Str → Option Value} {base : Heap} {T : Xd} (z : Txt mg) (f : Addr) (cdv : Value) (A : Around) (outer : List Env) (s : Shared) (H : Hp) (E : XK) (pl : Plc (Gs K) 0 (fun cls d _ H => E cls d H) (cxD P w K mg base ["script", "cell", "flat"] "_law_stock" (defScope s__law_stock) f cdv A outer s H E)) :
    Bs (Gs K) T (fun cls d _ H => E cls d H) (cxD P w K mg base ["script", "cell", "flat"] "_law_stock" (defScope s__law_stock) f cdv A outer s H E) (defBody s__law_stock) w__law_stock :=
  (bC (sComp 2 [("cell", 1)] pl sc__law_stock.nd (iSeqI pl (eScr 0 pl kI).g) (fun s H C cl fp pl => ⟨(gN 1 sc__law_stock.nd), tsN, (eIf (tCmp (cGe pl) (vG 1) kI.g) (bMul kI.g (vG 1)) (bSub (bMul (uNeg kI.g).g (vG 1)).g kI.g))⟩)) (bC (sRet (eStk (eComp [("cell", 1)] pl sc__law_stock.nd (iSeqI pl (vG 2)) (fun s H C cl fp pl => ⟨(gN 1 sc__law_stock.nd), (ts1 (tCmp (cGe pl) (vG 1) (bPow kI.g kI.g).g)), (vE 1)⟩)) (bAdd pl (vG 2) (eLst (aC (bAdd pl (bLen z.len (aC (vG 2) aN)).g kI.g).g aN)).g) (bSum pl z.sum (aC (vG 2) aN)) kI)) bN))
theorem c__law_stock (as : List Sl) (Q : R → List Sl → Prop) (E : Exc → List Sl → Prop) (h : φMake as Q E) : body 2 w__law_stock as Q E := by
  obtain ⟨ns, rfl, hn, q⟩ := h
  obtain ⟨l1, e1, z1, _⟩ := cutD_map (f := PyData.int) (l := ns) (a := none) (b := some 63)
  refine ⟨ns, rfl, _, rfl, _, _, rfl, ?_, ?_⟩
  · rw [e1, List.length_map]
    exact Nat.le_trans z1 (Nat.le_trans hn (by decide))
  refine comp_all (fun y => ∃ c, y = .int c) ?_ ?_ fun acc hl ha => ?_
  · exact trivial
  · intro d hd K k
    rw [e1] at hd
    obtain ⟨c, _, rfl⟩ := List.mem_map.mp hd
    refine ⟨rfl, _, rfl, pGe_int ⟨_, rfl, iteB (fun _ => ?_) fun _ => ?_⟩⟩
    · exact ⟨_, rfl, .inl ⟨by decide, by decide⟩, _, rfl, k _ ⟨_, rfl⟩⟩
    · exact ⟨_, rfl, _, rfl, _, rfl, .inl ⟨by decide, by decide⟩, _, rfl, _, _, rfl, _, rfl, k _ ⟨_, rfl⟩⟩
  · obtain ⟨ms, rfl⟩ := all_ints ha
    have hm : ms.length ≤ 63 := by
      rw [List.length_map, e1, List.length_map] at hl
      omega
    refine ⟨rfl, _, _, rfl, ?_, ?_⟩
    · rw [List.length_map]
      exact Nat.le_trans hm (by decide)
    refine comp_le (fun y => ∃ c, y = .int c) ?_ ?_ fun acc hl2 ha2 => ?_
    · exact ⟨⟨_, rfl⟩, trivial⟩
    · intro d hd K k0 k
      obtain ⟨c, _, rfl⟩ := List.mem_map.mp hd
      refine ⟨rfl, _, rfl, _, _, rfl, ⟨by decide, by decide⟩, _, rfl, pGe_int ⟨_, rfl, iteB (fun _ => ?_) fun _ => ?_⟩⟩
      · exact ⟨_, rfl, k _ ⟨_, rfl⟩⟩
      · exact k0
    · obtain ⟨ks, rfl⟩ := all_ints ha2
      have hk : ks.length ≤ 64 := by
        rw [List.length_map, List.length_map] at hl2
        omega
      refine ⟨_, rfl, _, rfl, _, rfl, rfl, _, rfl, ?_, _, rfl, ms, rfl, ks, ms ++ [_], _, _, rfl, ol_one, rfl, rfl, by simp, hk, _, rfl, q⟩
      rw [List.length_map]
      exact Nat.le_trans (Nat.add_le_add_right hm _) (by show 63 + 1 ≤ sizeLine; decide)

theorem d__law_stock {P : Program} {w : World} {K : PySem.W.Frag} {mg : Str → Option Value} {base : Heap} {T : Xd} (z : Txt mg) (W : Wr K mg "_law_stock" s__law_stock) : Fd P w K mg base (Gs K) T 1 1 "_law_stock" ["script"] [] φ__law_stock :=
  Fd.of W sc__law_stock (fun _ _ _ _ _ _ us hl => match us, hl with | [_], _ => rfl) bk0 rfl rfl rfl (fun f cdv A outer s H E pl => b__law_stock z f cdv A outer s H E pl) c__law_stock φ__law_stock_mono
abbrev φ__law_draw := φDraw
theorem d__law_draw {P : Program} {w : World} {K : PySem.W.Frag} {mg : Str → Option Value} {base : Heap} {T : Xd} (z : Txt mg) (W : Wr K mg "_law_draw" s__law_draw) : Fd P w K mg base (Gs K) T 1 2 "_law_draw" ["stock", "size"] [] φDraw := by
  have zi := z.int
  have zl := z.len
  refine Fd.raw W sc__law_draw (fun _ _ _ _ _ _ us hl => match us, hl with | [_, _], _ => rfl) bk0 rfl rfl (fun f cdv A outer s H vs Q E pl hl hsp => ?_) φDraw_mono
  obtain ⟨n, v, fp, rfl, n0, n1, hp, k⟩ := draw_in hsp
  obtain ⟨a, b, c, ns, ms, S, j, rfl, rfl, ab, ac, bc, ha, hb, hc, hm, hn⟩ := hp
  refine ⟨_, pss_cons (ps_if (pt_cmpR (o_ne (G := Gs K) rfl pl.un) (pe_ix ix_list (pv 0) pe_int plix) (pe_lst pa_nil) (nomark _))
      (pss_cons (ps_set (i := 2) sc__law_draw.nd rfl (Or.inl rfl) (pe_bm0 PySem.F.plainAttrs_list PySem.F.slot_list_pop PySem.F.type_list_pop mt_pop (pe_ix ix_list (pv 0) pe_int plix)))
        (pss_cons (ps_if (pt_cmpR op_ge (pv 2) (pv 1) (nomark _)) (pss_one (ps_expr (pe_bm PySem.F.plainAttrs_list PySem.F.slot_list_append PySem.F.type_list_append mt_append (pe_ix ix_list (pv 0) pe_int plix) (pa_cons (pe_op op_fdiv (pv 2) (pv 1)) pa_nil)))) pss_nil)
          (pss_one (ps_ret (pe_op op_mod (pe_callTy call_int1 (by rfl) zi (by rfl) (pa_cons (pv 2) pa_nil)) (pv 1))))))
      pss_nil)
    (pss_cons (ps_asg (pe_op op_add (pe_ix ix_list (pv 0) pe_int plix) pe_int) (pg_sub (pv 0) pe_int set_list))
    (pss_cons (ps_set (i := 3) sc__law_draw.nd rfl (Or.inl rfl) (pe_ix ix_list (pv 0) pe_int plix))
    (pss_cons (ps_set (i := 4) sc__law_draw.nd rfl (Or.inl rfl) (pe_op op_mod (pe_callTy call_int1 (by rfl) zi (by rfl) (pa_cons (pe_ix ix_list (pe_ix ix_list (pv 0) pe_int plix) (pe_op op_mod (pe_callTy call_int1 (by rfl) zi (by rfl) (pa_cons (pv 3) pa_nil)) (pe_callB call_len_seq (by rfl) zl PySem.boot_len (pa_cons (pe_ix ix_list (pv 0) pe_int plix) pa_nil))) plix) pa_nil)) pe_int))
    (pss_cons (ps_set (i := 5) sc__law_draw.nd rfl (Or.inl rfl) (pe_op op_mod (pe_callTy call_int1 (by rfl) zi (by rfl) (pa_cons (pe_op op_add (pe_op op_add (pe_op op_mul (pv 4) pe_int) (pe_op op_mul (pe_op op_mod (pe_callTy call_int1 (by rfl) zi (by rfl) (pa_cons (pe_ix ix_list (pv 0) pe_int plix) pa_nil)) pe_int) pe_int)) (pe_op op_mul (pv 3) pe_int)) pa_nil)) pe_int))
    (pss_cons (ps_set (i := 5) sc__law_draw.nd rfl (Or.inl rfl) (pe_op op_mod (pe_callTy call_int1 (by rfl) zi (by rfl) (pa_cons (pe_op op_add (pe_op op_add (pe_op op_mul (pv 5) (pv 5)) (pe_op op_mul (pv 3) pe_int)) (pv 4)) pa_nil)) pe_int))
    (pss_one (ps_ret (pe_op op_mod (pe_op op_fdiv (pe_op op_mod (pe_callTy call_int1 (by rfl) zi (by rfl) (pa_cons (pe_op op_add (pe_op op_mul (pv 5) pe_int) (pe_op op_mul (pv 3) pe_int)) pa_nil)) pe_int) pe_int) (pv 1))))))))), ?_⟩
  have lt1 : ∀ k : Nat, k < 1000 → k < sizeLine := fun k h => small1000 (Nat.le_of_lt h)
  refine ⟨_, rfl, _, _, _, _, rfl, rfl, .of ha, rfl, ?_⟩
  refine ⟨Nat.zero_le _, fun p hp => ?_⟩
  have kp : ∀ x o, H x = some o → upd H p (.lst []) x = some o := fun x o e => by rw [upd_ne (ne_of_none e hp)]; exact e
  refine ⟨fun _ => False, [.list (ns.map .int), .list []], fun _ h => h.elim, .cons ?_ (.cons ?_ .nil), _, _, rfl, plain_ints ns, rfl, Nat.le_trans (Nat.min_le_right _ _) (by decide), fun v H1 f1 new => ?_⟩
  · exact ⟨by rw [List.length_map]; exact Nat.le_trans hn (by decide), b, _, rfl, kp _ _ hb, .ints ns⟩
  · exact ⟨Nat.zero_le _, p, [], rfl, upd_same, .nil⟩
  obtain ⟨rfl, k1⟩ := new.bool'
  have kk : ∀ x o, H x = some o → H1 x = some o := fun x o e => k1 _ _ (kp _ _ e)
  have fa := kk _ _ ha
  have fb := kk _ _ hb
  have fc := kk _ _ hc
  refine ⟨_, rfl, ?_⟩
  rcases List.eq_nil_or_concat ns with rfl | ⟨ns', z, e0⟩
  · show if (!((PyData.list (List.map PyData.int ([] : List Int))).eqv (PyData.list []))) = true then _ else _
    rw [show (PyData.list (List.map PyData.int ([] : List Int))).eqv (PyData.list []) = true from rfl, if_neg (by decide)]
    -- stock[3] = stock[3] + 1
    refine ⟨_, rfl, _, _, _, _, rfl, rfl, .of fa, rfl, _, _, rfl, rfl, _, rfl, a, _, _, 3, rfl, rfl, fa, rfl, ?_⟩
    -- turn, cell
    refine ⟨_, rfl, _, _, _, _, rfl, rfl, .of upd_same, rfl, ?_⟩
    have fc2 : upd H1 a (.lst ([V.ref b, V.ref c, V.int S, V.int j].set 3 (.int (j + 1)))) c = some (.lst (ms.map .int)) := by rw [upd_ne ac.symm]; exact fc
    obtain ⟨m, hm2⟩ := pick_int hm (j + 1)
    refine ⟨_, rfl, _, _, _, _, rfl, rfl, .of upd_same, rfl, _, rfl, .inl ⟨_, rfl, _, rfl, _, _, _, _, rfl, rfl, .of upd_same, rfl, c, ms.map V.int, rfl, .inl (.of fc2), _, _, rfl, rfl, ?_, _, _, _, _, rfl, rfl, .of fc2, hm2, .inl ⟨_, rfl, _, _, rfl, rfl, (by show (0 : Int) < _; decide), ?_⟩⟩⟩
    · show (0 : Int) < _
      rw [List.length_map]
      have := len_pos hm
      omega
    -- blend
    refine ⟨_, rfl, _, _, rfl, rfl, .inr ⟨by decide, by decide⟩, ?_⟩
    refine ⟨_, rfl, _, _, _, _, rfl, rfl, .of upd_same, rfl, .inl ⟨_, rfl, _, _, rfl, rfl, (by show (0 : Int) < _; decide), _, _, rfl, rfl, .inr ⟨by decide, by decide⟩, _, _, rfl, rfl, _, rfl, _, _, rfl, rfl, .inr ⟨by decide, by decide⟩, _, _, rfl, rfl, .inl ⟨_, rfl, _, _, rfl, rfl, (by show (0 : Int) < _; decide), ?_⟩⟩⟩
    have go : ∀ i : Nat, i < n → Q (V.int i) (upd H1 a (.lst ([V.ref b, V.ref c, V.int S, V.int j].set 3 (.int (j + 1))))) := fun i hi => by
      refine k i _ hi (fun x o e nx => ?_) (fun x h => ?_) ⟨a, b, c, [], ms, S, j + 1, rfl, rfl, ab, ac, bc, upd_same, by rw [upd_ne ab.symm]; exact fb, fc2, hm, Nat.zero_le _⟩
      · rw [upd_ne fun q => nx (by rw [q]; simp)]
        exact kk _ _ e
      · by_cases q : x = a
        · rw [q, upd_same]; simp
        · rw [upd_ne q]
          cases z : H x with
          | none => exact absurd z h
          | some o => rw [kk _ _ z]; simp
    refine ⟨_, rfl, _, rfl, _, _, rfl, rfl, .inl (mod64 _), _, rfl, _, _, rfl, rfl, .inr ⟨by decide, by decide⟩, _, _, rfl, rfl, _, rfl, _, _, rfl, rfl, .inl ⟨_, rfl, _, _, rfl, rfl, (by show (0 : Int) < _; decide), ?_⟩⟩
    refine ⟨_, rfl, _, _, rfl, rfl, .inr ⟨by decide, by decide⟩, _, rfl, _, _, rfl, rfl, .inr ⟨by decide, by decide⟩, _, _, rfl, rfl, .inl ⟨_, rfl, _, _, rfl, rfl, (by show (0 : Int) < _; decide), _, _, rfl, rfl, ⟨by decide, by decide⟩, _, rfl, _, _, rfl, rfl, (by show (0 : Int) < (n : Int); omega), ?_⟩⟩
    exact rem_case n0 go _
  · rw [List.concat_eq_append] at e0
    subst e0
    show if (!((PyData.list (List.map PyData.int (ns' ++ [z]))).eqv (PyData.list []))) = true then _ else _
    rw [eqv_nil (by simp), show (!false) = true from rfl, if_pos rfl]
    have fb2 : H1 b = some (.lst (ns'.map V.int ++ [V.int z])) := by rw [fb]; simp
    refine ⟨_, rfl, _, _, _, _, rfl, rfl, .of fa, rfl, .inl ⟨rfl, _, .of fb2⟩, b, _, V.int z, rfl, rfl, fb2, by simp, ?_⟩
    rw [List.dropLast_concat]
    have ga : upd H1 b (.lst (ns'.map V.int)) a = some (.lst [.ref b, .ref c, .int S, .int j]) := by rw [upd_ne ab]; exact fa
    have gc : upd H1 b (.lst (ns'.map V.int)) c = some (.lst (ms.map V.int)) := by rw [upd_ne bc.symm]; exact fc
    obtain ⟨i, hi, ei⟩ := rem_nat n0 z
    have hn' : ns'.length + 1 ≤ 64 := by simpa using hn
    -- if great >= size
    refine ⟨_, rfl, _, rfl, _, _, rfl, rfl, _, rfl, ?_⟩
    by_cases hz : (n : Int) ≤ z
    · show if (decide ((n : Int) ≤ z)) = true then _ else _
      rw [decide_eq_true hz, if_pos rfl]
      refine ⟨_, rfl, _, _, _, _, rfl, rfl, .of ga, rfl, .inl ⟨rfl, _, .of upd_same⟩, _, rfl, _, rfl, _, _, rfl, rfl, ⟨by omega, by omega⟩, b, _, _, rfl, rfl, upd_same, ?_, ?_⟩
      · rw [List.length_map]; exact small1000 (by omega)
      · refine ⟨_, rfl, .inl ⟨_, rfl, _, rfl, _, _, rfl, rfl, (by show (0 : Int) < (n : Int); omega), ?_⟩⟩
        show Q (V.int (z % (n : Int))) _
        rw [ei]
        refine k i _ hi (fun x o e nx => ?_) (fun x h => ?_) ⟨a, b, c, ns' ++ [z / n], ms, S, j, rfl, rfl, ab, ac, bc, ?_, ?_, ?_, hm, by simpa using hn'⟩
        · rw [upd_ne fun q => nx (by rw [q]; simp), upd_ne fun q => nx (by rw [q]; simp)]
          exact kk _ _ e
        · by_cases q : x = b
          · rw [q, upd_same]; simp
          · rw [upd_ne q, upd_ne q]
            cases z : H x with
            | none => exact absurd z h
            | some o => rw [kk _ _ z]; simp
        · rw [upd_ne ab]; exact ga
        · rw [upd_same]; simp
        · rw [upd_ne bc.symm]; exact gc
    · show if (decide ((n : Int) ≤ z)) = true then _ else _
      rw [decide_eq_false hz, if_neg (by decide)]
      refine ⟨_, rfl, .inl ⟨_, rfl, _, rfl, _, _, rfl, rfl, (by show (0 : Int) < (n : Int); omega), ?_⟩⟩
      show Q (V.int (z % (n : Int))) _
      rw [ei]
      refine k i _ hi (fun x o e nx => ?_) (fun x h => ?_) ⟨a, b, c, ns', ms, S, j, rfl, rfl, ab, ac, bc, ga, upd_same, gc, hm, by omega⟩
      · rw [upd_ne fun q => nx (by rw [q]; simp)]
        exact kk _ _ e
      · by_cases q : x = b
        · rw [q, upd_same]; simp
        · rw [upd_ne q]
          cases z : H x with
          | none => exact absurd z h
          | some o => rw [kk _ _ z]; simp

def φ__law_pick : Spc := fun as Q _ => ∃ l : List PyData, as = [.pot true, .sh (.list l)] ∧ l ≠ [] ∧ l.length < 1073741824 ∧ ∀ d ∈ l, Q (.sh d) as
theorem φ__law_pick_mono : MonoS φ__law_pick := fun as Q Q' E E' h _ ⟨l, e, e2, e3, q⟩ => ⟨l, e, e2, e3, fun d hd => h _ _ (q d hd)⟩
--go: ⟨_, rfl, by simp, by simp, fun d hd => ?_⟩

def w__law_pick : WS := seqS (retS (primW pIx (seqA [vwG 1, ofE (callW φ__law_draw (seqA [vwG 0, ofE (primW pLen (seqA [vwG 1]))]))]))) nxS
theorem b__law_pick {P : Program} {w : World} {K : PySem.W.Frag} {mg : Str → Option Value} {base : Heap} {G : Wd} {T : Xd} (z : Txt mg) (F__law_draw : Fd P w K mg base G T 1 2 "_law_draw" ["stock", "size"] [] φ__law_draw) (f : Addr) (cdv : Value) (A : Around) (outer : List Env) (s : Shared) (H : Hp) (E : XK) (pl : Plc G 1 (fun cls d _ H => E cls d H) (cxD P w K mg base ["stock", "row"] "_law_pick" (defScope s__law_pick) f cdv A outer s H E)) :
    Bs G T (fun cls d _ H => E cls d H) (cxD P w K mg base ["stock", "row"] "_law_pick" (defScope s__law_pick) f cdv A outer s H E) (defBody s__law_pick) w__law_pick :=
  (bC (sRet (ixE pl (vG 1) (eF pl F__law_draw (ha := (aC (vG 0) (aC (bLen z.len (aC (vG 1) aN)).g aN)))).g)) bN)
theorem c__law_pick (as : List Sl) (Q : R → List Sl → Prop) (E : Exc → List Sl → Prop) (h : φ__law_pick as Q E) : body 0 w__law_pick as Q E := by
  obtain ⟨l, rfl, h1, h2, q⟩ := h
  refine ⟨_, rfl, _, rfl, rfl, l.length, rfl, len_pos h1, h2, fun i hi => ?_⟩
  refine ⟨_, rfl, _, atI_nat hi, _, rfl, q _ (List.getElem_mem hi)⟩

theorem d__law_pick {P : Program} {w : World} {K : PySem.W.Frag} {mg : Str → Option Value} {base : Heap} {T : Xd} (z : Txt mg) (F__law_draw : Fd P w K mg base (Gs K) T 1 2 "_law_draw" ["stock", "size"] [] φ__law_draw) (W : Wr K mg "_law_pick" s__law_pick) : Fd P w K mg base (Gs K) T 2 2 "_law_pick" ["stock", "row"] [] φ__law_pick :=
  Fd.of W sc__law_pick (fun _ _ _ _ _ _ us hl => match us, hl with | [_, _], _ => rfl) bk0 rfl rfl rfl (fun f cdv A outer s H E pl => b__law_pick z F__law_draw f cdv A outer s H E pl) c__law_pick φ__law_pick_mono
def φ__law_words : Spc := fun as Q _ => ∃ most : Nat, as = [.pot true, .sh (.int most)] ∧ 0 < most ∧ most < 1000 ∧ ∀ ws : List PyData, ws.length < most → (∀ y ∈ ws, IsW y) → Q (.ol ws) as
theorem φ__law_words_mono : MonoS φ__law_words := fun as Q Q' E E' h _ ⟨l, e, e2, e3, q⟩ => ⟨l, e, e2, e3, fun ws h1 h2 => h _ _ (q ws h1 h2)⟩
--go: ⟨_, rfl, by omega, by omega, fun ws hw hy => ?_⟩

def w__law_words : WS := seqS (retS (compI (rng1I (seqA [ofE (callW φ__law_draw (seqA [vwG 0, ofE (varE 1)]))])) [2] (nameT 2) (yesT) (callW φ__law_pick (seqA [vwG 0, ofE (lstE (seqA [ofE (conE (.str "jump")), ofE (conE (.str "jump")), ofE (conE (.str "fill")), ofE (conE (.str "fill")), ofE (conE (.str "label"))]))])))) nxS
theorem b__law_words {P : Program} {w : World} {K : PySem.W.Frag} {mg : Str → Option Value} {base : Heap} {G : Wd} {T : Xd} (z : Txt mg) (F__law_pick : Fd P w K mg base G T 2 2 "_law_pick" ["stock", "row"] [] φ__law_pick) (F__law_draw : Fd P w K mg base G T 1 2 "_law_draw" ["stock", "size"] [] φ__law_draw) (f : Addr) (cdv : Value) (A : Around) (outer : List Env) (s : Shared) (H : Hp) (E : XK) (pl : Plc G 2 (fun cls d _ H => E cls d H) (cxD P w K mg base ["stock", "most", "turn"] "_law_words" (defScope s__law_words) f cdv A outer s H E)) :
    Bs G T (fun cls d _ H => E cls d H) (cxD P w K mg base ["stock", "most", "turn"] "_law_words" (defScope s__law_words) f cdv A outer s H E) (defBody s__law_words) w__law_words :=
  (bC (sRet (eComp [("turn", 2)] pl sc__law_words.nd (iRng1I z.range (eF pl F__law_draw (ha := (aC (vG 0) (aC (vE 1).g aN)))).g) (fun s H C cl fp pl => ⟨(gN 2 sc__law_words.nd), tsN, (eF pl F__law_pick (ha := (aC (vG 0) (aC (eLst (aC kS.g (aC kS.g (aC kS.g (aC kS.g (aC kS.g aN)))))).g aN))))⟩))) bN)
theorem c__law_words (as : List Sl) (Q : R → List Sl → Prop) (E : Exc → List Sl → Prop) (h : φ__law_words as Q E) : body 1 w__law_words as Q E := by
  obtain ⟨most, rfl, h1, h2, q⟩ := h
  refine ⟨_, rfl, rfl, most, rfl, h1, by omega, fun i hi => ⟨i, rfl, ⟨by omega, by omega⟩, ?_, ?_⟩⟩
  · rw [rngD_len]
    exact Nat.le_trans (show (i : Int).toNat ≤ 1000 by omega) (by decide)
  · refine comp_all IsW ?_ ?_ fun acc hl ha => ?_
    · exact trivial
    · intro d hd K k
      refine ⟨rfl, _, rfl, rfl, _, rfl, rfl, _, rfl, by simp, by decide, fun y hy => ⟨_, rfl, k _ ?_⟩⟩
      simp only [List.mem_cons, List.not_mem_nil, or_false] at hy
      rcases hy with rfl | rfl | rfl | rfl | rfl
      · exact .inl rfl
      · exact .inl rfl
      · exact .inr (.inl rfl)
      · exact .inr (.inl rfl)
      · exact .inr (.inr rfl)
    · rw [rngD_len] at hl
      exact ⟨_, rfl, q acc (by omega) ha⟩

theorem d__law_words {P : Program} {w : World} {K : PySem.W.Frag} {mg : Str → Option Value} {base : Heap} {T : Xd} (z : Txt mg) (F__law_pick : Fd P w K mg base (Gs K) T 2 2 "_law_pick" ["stock", "row"] [] φ__law_pick) (F__law_draw : Fd P w K mg base (Gs K) T 1 2 "_law_draw" ["stock", "size"] [] φ__law_draw) (W : Wr K mg "_law_words" s__law_words) : Fd P w K mg base (Gs K) T 3 2 "_law_words" ["stock", "most"] [] φ__law_words :=
  Fd.of W sc__law_words (fun _ _ _ _ _ _ us hl => match us, hl with | [_, _], _ => rfl) bk0 rfl rfl rfl (fun f cdv A outer s H E pl => b__law_words z F__law_pick F__law_draw f cdv A outer s H E pl) c__law_words φ__law_words_mono
def φ__law_skeleton : Spc := fun as Q _ => ∃ most wide : Nat, as = [.pot true, .sh (.int most), .sh (.int wide)] ∧ 0 < wide ∧ wide ≤ 22 ∧ ∀ sk : Sk, SkOk sk → Q (.sh (dSk sk)) as
theorem φ__law_skeleton_mono : MonoS φ__law_skeleton := fun as Q Q' E E' h _ ⟨m, w, e, e2, e3, q⟩ => ⟨m, w, e, e2, e3, fun sk hs => h _ _ (q sk hs)⟩
--go: ⟨_, _, rfl, by first | decide | omega, by first | decide | omega, fun sk hs => ?_⟩

def w__law_skeleton_7 : WS := seqS (retS (primW pTup (seqA [vwG 8]))) nxS
def w__law_skeleton_6f0a4 : WS := seqS (dropS (mthE 8 (seqA [ofE (tupE (seqA [ofE (conE (.str "jump")), ofE (varE 13), ofE (varE 10), ofE (primW pMin (seqA [ofE (conE (.int 999)), ofE (primW pAdd (seqA [vwG 10, vwG 11]))]))]))]) mApp)) nxS
def w__law_skeleton_6f0a3 : WS := seqS (asgS 13 (callW φ__law_pick (seqA [vwG 0, ofE (compI (seqI (vwG 7)) [12] (nameT 12) (valT (primW pLt (seqA [vwG 12, ofE (conE (.int 24))]))) (varE 12))]))) w__law_skeleton_6f0a4
def w__law_skeleton_6f0a2 : WS := seqS (asgS 11 (callW φ__law_pick (seqA [vwG 0, ofE (lstE (seqA [ofE (conE (.int 1)), ofE (conE (.int 2)), ofE (conE (.int 3)), ofE (conE (.int 4)), ofE (conE (.int 4)), ofE (conE (.int 5)), ofE (conE (.int 6)), ofE (conE (.int 8)), ofE (conE (.int 16)), ofE (primW pAdd (seqA [ofE (conE (.int 1)), ofE (callW φ__law_draw (seqA [vwG 0, ofE (conE (.int 90))]))]))]))]))) w__law_skeleton_6f0a3
def w__law_skeleton_6f0a1 : WS := seqS (asgS 10 (callW φ__law_pick (seqA [vwG 0, ofE (lstE (seqA [ofE (varE 9), ofE (varE 9), ofE (varE 9), ofE (primW pAdd (seqA [ofE (conE (.int 1)), ofE (callW φ__law_draw (seqA [vwG 0, ofE (conE (.int 998))]))]))]))]))) w__law_skeleton_6f0a2
def w__law_skeleton_6f0a0 : WS := seqS (asgS 9 (primW pAdd (seqA [ofE (conE (.int 1)), ofE (callW φ__law_draw (seqA [vwG 0, ofE (conE (.int 4))]))]))) w__law_skeleton_6f0a1
def w__law_skeleton_6f0b0a0 : WS := seqS (dropS (mthE 8 (seqA [ofE (tupE (seqA [ofE (conE (.str "fill")), ofE (callW φ__law_pick (seqA [vwG 0, ofE (lstE (seqA [ofE (conE (.int 2)), ofE (conE (.int 2)), ofE (conE (.int 4)), ofE (conE (.int 4)), ofE (conE (.int 4)), ofE (conE (.int 8)), ofE (conE (.int 8)), ofE (callW φ__law_pick (seqA [vwG 0, ofE (lstE (seqA [ofE (conE (.int 16)), ofE (conE (.int 32)), ofE (conE (.int 64))]))]))]))]))]))]) mApp)) nxS
def w__law_skeleton_6f0b0b0 : WS := seqS (dropS (mthE 8 (seqA [ofE (tupE (seqA [ofE (conE (.str "label"))]))]) mApp)) nxS
def w__law_skeleton_6f0b0 : WS := seqS (ifS (valT (primW pEq (seqA [vwG 5, ofE (conE (.str "fill"))]))) (w__law_skeleton_6f0b0a0) (w__law_skeleton_6f0b0b0)) nxS
def w__law_skeleton_6f0 : WS := seqS (ifS (valT (primW pEq (seqA [vwG 5, ofE (conE (.str "jump"))]))) (w__law_skeleton_6f0a0) (w__law_skeleton_6f0b0)) nxS
def w__law_skeleton_6 : WS := seqS (forI (seqI (ofE (primW pSl (seqA [vwG 3, partG none, partG (some (conE (.int 24)))])))) (nameT 5) (w__law_skeleton_6f0)) w__law_skeleton_7
def w__law_skeleton_5 : WS := seqS (parS2 7 8 (compI (enumI (vwG 3)) [4, 5] (tupT [4, 5]) (valT (primW pEq (seqA [vwG 5, ofE (conE (.str "label"))]))) (varE 4)) (lstE (seqA []))) w__law_skeleton_6
def w__law_skeleton_4f0 : WS := seqS (setS 3 (conE (.str "fill")) (varE 4)) nxS
def w__law_skeleton_4 : WS := seqS (forI (seqI (ofE (primW pSl (seqA [vwG 6, partG (some (varE 1)), partG none])))) (nameT 4) (w__law_skeleton_4f0)) w__law_skeleton_5
def w__law_skeleton_3 : WS := seqS (asgS 6 (compI (enumI (vwG 3)) [4, 5] (tupT [4, 5]) (valT (primW pEq (seqA [vwG 5, ofE (conE (.str "jump"))]))) (varE 4))) w__law_skeleton_4
def w__law_skeleton_2 : WS := seqS (dropS (mthE 3 (seqA [ofE (callW φ__law_draw (seqA [vwG 0, ofE (primW pAdd (seqA [ofE (primW pLen (seqA [vwG 3])), ofE (conE (.int 1))]))])), ofE (conE (.str "label"))]) mIns)) w__law_skeleton_3
def w__law_skeleton_1a0 : WS := seqS (asgS 3 (primW pAdd (seqA [ofE (primW pAdd (seqA [ofE (primW pSl (seqA [vwG 3, partG none, partG (some (conE (.int 2)))])), ofE (lstE (seqA [ofE (conE (.str "jump")), ofE (conE (.str "jump")), ofE (conE (.str "fill")), ofE (conE (.str "label"))]))])), ofE (primW pSl (seqA [vwG 3, partG (some (conE (.int 2))), partG none]))]))) nxS
def w__law_skeleton_1 : WS := seqS (ifS (valT (primW pEq (seqA [ofE (callW φ__law_draw (seqA [vwG 0, ofE (conE (.int 2))])), ofE (conE (.int 0))]))) (w__law_skeleton_1a0) (nxS)) w__law_skeleton_2
def w__law_skeleton : WS := seqS (asgS 3 (callW φ__law_words (seqA [vwG 0, ofE (varE 2)]))) w__law_skeleton_1
theorem b__law_skeleton {P : Program} {w : World} {K : PySem.W.Frag} {mg : Str → Option Value} {base : Heap} {G : Wd} {T : Xd} (z : Txt mg) (F__law_words : Fd P w K mg base G T 3 2 "_law_words" ["stock", "most"] [] φ__law_words) (F__law_draw : Fd P w K mg base G T 1 2 "_law_draw" ["stock", "size"] [] φ__law_draw) (F__law_pick : Fd P w K mg base G T 2 2 "_law_pick" ["stock", "row"] [] φ__law_pick) (f : Addr) (cdv : Value) (A : Around) (outer : List Env) (s : Shared) (H : Hp) (E : XK) (pl : Plc G 3 (fun cls d _ H => E cls d H) (cxD P w K mg base ["stock", "most", "wide", "words", "place", "word", "jumps", "goals", "found", "small", "brief", "growth", "own", "goal"] "_law_skeleton" (defScope s__law_skeleton) f cdv A outer s H E)) :
    Bs G T (fun cls d _ H => E cls d H) (cxD P w K mg base ["stock", "most", "wide", "words", "place", "word", "jumps", "goals", "found", "small", "brief", "growth", "own", "goal"] "_law_skeleton" (defScope s__law_skeleton) f cdv A outer s H E) (defBody s__law_skeleton) w__law_skeleton :=
  (bC (sAsg 3 sc__law_skeleton.nd (eF pl F__law_words (ha := (aC (vG 0) (aC (vE 2).g aN))))) (bC (sIf (tCmp (cEq pl) (eF pl F__law_draw (ha := (aC (vG 0) (aC kI.g aN)))).g kI.g) (bC (sAsg 3 sc__law_skeleton.nd (bAdd pl (bAdd pl (slE pl (vG 3) oN (oS kI)).g (eLst (aC kS.g (aC kS.g (aC kS.g (aC kS.g aN))))).g).g (slE pl (vG 3) (oS kI) oN).g)) bN) bN) (bC (sExpr (mInsert 3 pl (aC (eF pl F__law_draw (ha := (aC (vG 0) (aC (bAdd pl (bLen z.len (aC (vG 3) aN)).g kI.g).g aN)))).g (aC kS.g aN)))) (bC (sComp 6 [("place", 4), ("word", 5)] pl sc__law_skeleton.nd (iEnumI pl z.enumerate (vG 3)) (fun s H C cl fp pl => ⟨(gT pl (gsC (gN 4 sc__law_skeleton.nd) (gsC (gN 5 sc__law_skeleton.nd) gsN))), (ts1 (tCmp (cEq pl) (vG 5) kS.g)), (vE 4)⟩)) (bC (sFor pl (iSeqI pl (slE pl (vG 6) (oS (vE 1)) oN).g) (gN 4 sc__law_skeleton.nd) (bC (sSet 3 (vE 4) kS) bN)) (bC (sPar2 7 8 pl sc__law_skeleton.nd (eComp [("place", 4), ("word", 5)] pl sc__law_skeleton.nd (iEnumI pl z.enumerate (vG 3)) (fun s H C cl fp pl => ⟨(gT pl (gsC (gN 4 sc__law_skeleton.nd) (gsC (gN 5 sc__law_skeleton.nd) gsN))), (ts1 (tCmp (cEq pl) (vG 5) kS.g)), (vE 4)⟩)) (eLst aN)) (bC (sFor pl (iSeqI pl (slE pl (vG 3) oN (oS kI)).g) (gN 5 sc__law_skeleton.nd) (bC (sIf (tCmp (cEq pl) (vG 5) kS.g) (bC (sAsg 9 sc__law_skeleton.nd (bAdd pl kI.g (eF pl F__law_draw (ha := (aC (vG 0) (aC kI.g aN)))).g)) (bC (sAsg 10 sc__law_skeleton.nd (eF pl F__law_pick (ha := (aC (vG 0) (aC (eLst (aC (vE 9).g (aC (vE 9).g (aC (vE 9).g (aC (bAdd pl kI.g (eF pl F__law_draw (ha := (aC (vG 0) (aC kI.g aN)))).g).g aN))))).g aN))))) (bC (sAsg 11 sc__law_skeleton.nd (eF pl F__law_pick (ha := (aC (vG 0) (aC (eLst (aC kI.g (aC kI.g (aC kI.g (aC kI.g (aC kI.g (aC kI.g (aC kI.g (aC kI.g (aC kI.g (aC (bAdd pl kI.g (eF pl F__law_draw (ha := (aC (vG 0) (aC kI.g aN)))).g).g aN))))))))))).g aN))))) (bC (sAsg 13 sc__law_skeleton.nd (eF pl F__law_pick (ha := (aC (vG 0) (aC (eComp [("own", 12)] pl sc__law_skeleton.nd (iSeqI pl (vG 7)) (fun s H C cl fp pl => ⟨(gN 12 sc__law_skeleton.nd), (ts1 (tCmp (cLt pl) (vG 12) kI.g)), (vE 12)⟩)).g aN))))) (bC (sExpr (mAppend 8 pl (aC (eTup (aC kS.g (aC (vE 13).g (aC (vE 10).g (aC (bMin pl z.min (aC kI.g (aC (bAdd pl (vG 10) (vG 11)).g aN))).g aN))))).g aN))) bN))))) (bC (sIf (tCmp (cEq pl) (vG 5) kS.g) (bC (sExpr (mAppend 8 pl (aC (eTup (aC kS.g (aC (eF pl F__law_pick (ha := (aC (vG 0) (aC (eLst (aC kI.g (aC kI.g (aC kI.g (aC kI.g (aC kI.g (aC kI.g (aC kI.g (aC (eF pl F__law_pick (ha := (aC (vG 0) (aC (eLst (aC kI.g (aC kI.g (aC kI.g aN)))).g aN)))).g aN))))))))).g aN)))).g aN))).g aN))) bN) (bC (sExpr (mAppend 8 pl (aC (eTup (aC kS.g aN)).g aN))) bN)) bN)) bN)) (bC (sRet (bTup pl z.tuple (aC (vG 8) aN))) bN))))))))
section
variable {m w : Nat} {Q : R → List Sl → Prop} {E : Exc → List Sl → Prop} {a3 a4 a5 a6 a7 a8 a9 a10 a11 a12 a13 : Sl} {ws : List PyData}
theorem c_skel_7 {sk : Sk} (q : Q (.sh (dSk sk)) [.pot true, .sh (.int m), .sh (.int w)]) :
    w__law_skeleton_7 [.pot true, .sh (.int m), .sh (.int w), a3, a4, a5, a6, a7, .ol false (sk.map dIt), a9, a10, a11, a12, a13] (bodyP [.pot true, .sh (.int m), .sh (.int w)] Q E) :=
  ⟨_, rfl, _, rfl, q⟩
theorem c_skel_jump3 {gs : List Nat} {fd : List PyData} {P : Po} {b c : Int} (hs : gs.length ≤ 100) (hn : ∃ g ∈ gs, g < 24) (hf : fd.length < sizeLine) (b1 : 1 ≤ b) (b2 : b ≤ 998) (c1 : 1 ≤ c) (c2 : c ≤ 90)
    (k : ∀ (g : Nat) (b l : Int) (x9 x10 x11 x13 : Sl), g ∈ gs → g < 24 → 1 ≤ b → b ≤ 998 → b < l → l ≤ 999 → P.nx [.pot true, .sh (.int m), .sh (.int w), a3, a4, a5, a6, .ol false (dInts gs), .ol false (fd ++ [dIt (.jump g b l)]), x9, x10, x11, a12, x13]) :
    w__law_skeleton_6f0a3 [.pot true, .sh (.int m), .sh (.int w), a3, a4, a5, a6, .ol false (dInts gs), .ol false fd, a9, .sh (.int b), .sh (.int c), a12, a13] P := by
  refine ⟨_, _, rfl, ?_, ?_⟩
  · show (dInts gs).length ≤ sizeLine
    unfold dInts
    rw [List.length_map]
    exact Nat.le_trans hs (by decide)
  · refine comp_goE (gLess 24) (less_ints 24 gs) ?_ ?_ ?_
    · exact ⟨⟨_, rfl⟩, trivial⟩
    · intro d hd K k
      obtain ⟨g, _, rfl⟩ := List.mem_map.mp hd
      refine ⟨rfl, _, rfl, pLt_int ⟨_, rfl, iteB (fun e => ?_) fun e => ?_⟩⟩
      · rw [show gLess 24 (.int g) = some (.int g) from if_pos (decide_eq_true e)] at k
        exact ⟨_, rfl, k⟩
      · rw [show gLess 24 (.int g) = none from if_neg (by rw [decide_eq_false e]; decide)] at k
        exact k
    · refine ⟨_, rfl, rfl, _, rfl, ?_, ?_, fun d hd => ?_⟩
      · obtain ⟨g, h1, h2⟩ := hn
        exact List.ne_nil_of_mem (a := PyData.int g) (List.mem_map.mpr ⟨g, List.mem_filter.mpr ⟨h1, decide_eq_true h2⟩, rfl⟩)
      · unfold dInts
        rw [List.length_map]
        exact Nat.lt_of_le_of_lt (Nat.le_trans (List.length_filter_le _ _) hs) (by decide)
      · obtain ⟨g, hg1, rfl⟩ := List.mem_map.mp hd
        have hg2 := List.mem_filter.mp hg1
        have hl : b < (if b + c < 999 then b + c else 999) ∧ (if b + c < 999 then b + c else 999) ≤ 999 := by
          split <;> omega
        exact ⟨rfl, ⟨_, _, rfl⟩, _, rfl, _, rfl, _, rfl, rfl, _, _, _, rfl, rfl, _, rfl, hf, k g b _ _ _ _ _ hg2.1 (of_decide_eq_true hg2.2) b1 b2 hl.1 hl.2⟩
theorem c_skel_jump {gs : List Nat} {fd : List PyData} {P : Po} (hs : gs.length ≤ 100) (hn : ∃ g ∈ gs, g < 24) (hf : fd.length < sizeLine)
    (k : ∀ (g : Nat) (b l : Int) (x9 x10 x11 x13 : Sl), g ∈ gs → g < 24 → 1 ≤ b → b ≤ 998 → b < l → l ≤ 999 → P.nx [.pot true, .sh (.int m), .sh (.int w), a3, a4, a5, a6, .ol false (dInts gs), .ol false (fd ++ [dIt (.jump g b l)]), x9, x10, x11, a12, x13]) :
    w__law_skeleton_6f0a0 [.pot true, .sh (.int m), .sh (.int w), a3, a4, a5, a6, .ol false (dInts gs), .ol false fd, a9, a10, a11, a12, a13] P := by
  refine ⟨_, rfl, rfl, 4, rfl, by decide, by decide, fun i1 hi1 => ⟨_, rfl, rfl, ?_⟩⟩
  refine ⟨_, rfl, rfl, 998, rfl, by decide, by decide, fun i2 hi2 => ⟨_, rfl, _, rfl, rfl, _, rfl, rfl, _, rfl, by simp, by simp, fun d1 hd1 => ⟨rfl, ?_⟩⟩⟩
  have hb : ∃ c : Int, d1 = .int c ∧ 1 ≤ c ∧ c ≤ 998 := by
    simp only [List.mem_cons, List.not_mem_nil, or_false] at hd1
    rcases hd1 with rfl | rfl | rfl | rfl
    all_goals exact ⟨_, rfl, by omega, by omega⟩
  obtain ⟨b, rfl, b1, b2⟩ := hb
  refine ⟨_, rfl, rfl, 90, rfl, by decide, by decide, fun i2 hi2 => ⟨_, rfl, _, rfl, rfl, _, rfl, rfl, _, rfl, by simp, by simp, fun d hd => ⟨rfl, ?_⟩⟩⟩
  have hc : ∃ c : Int, d = .int c ∧ 1 ≤ c ∧ c ≤ 90 := by
    simp only [List.mem_cons, List.not_mem_nil, or_false] at hd
    rcases hd with rfl | rfl | rfl | rfl | rfl | rfl | rfl | rfl | rfl | rfl
    all_goals exact ⟨_, rfl, by omega, by omega⟩
  obtain ⟨c, rfl, c1, c2⟩ := hc
  exact c_skel_jump3 hs hn hf b1 b2 c1 c2 k
theorem c_skel_fill {fd : List PyData} {P : Po} (hf : fd.length < sizeLine)
    (k : ∀ n : Int, (n = 2 ∨ n = 4 ∨ n = 8 ∨ n = 16 ∨ n = 32 ∨ n = 64) → P.nx [.pot true, .sh (.int m), .sh (.int w), a3, a4, a5, a6, a7, .ol false (fd ++ [dIt (.fill n)]), a9, a10, a11, a12, a13]) :
    w__law_skeleton_6f0b0a0 [.pot true, .sh (.int m), .sh (.int w), a3, a4, a5, a6, a7, .ol false fd, a9, a10, a11, a12, a13] P := by
  refine ⟨⟨_, _, rfl⟩, _, rfl, rfl, _, rfl, rfl, _, rfl, by simp, by simp, fun d1 hd1 => ⟨_, rfl, rfl, _, rfl, rfl, _, rfl, by simp, by simp, fun d hd => ?_⟩⟩
  have hc1 : ∃ c : Int, d1 = .int c ∧ (c = 16 ∨ c = 32 ∨ c = 64) := by
    simp only [List.mem_cons, List.not_mem_nil, or_false] at hd1
    rcases hd1 with rfl | rfl | rfl
    all_goals exact ⟨_, rfl, by omega⟩
  obtain ⟨c1, rfl, c11⟩ := hc1
  have hc : ∃ c : Int, d = .int c ∧ (c = 2 ∨ c = 4 ∨ c = 8 ∨ c = 16 ∨ c = 32 ∨ c = 64) := by
    simp only [List.mem_cons, List.not_mem_nil, or_false] at hd
    rcases hd with rfl | rfl | rfl | rfl | rfl | rfl | rfl | rfl
    all_goals exact ⟨_, rfl, by omega⟩
  obtain ⟨c, rfl, c01⟩ := hc
  exact ⟨_, rfl, rfl, _, _, _, rfl, rfl, _, rfl, hf, k c c01⟩
theorem c_skel_label {fd : List PyData} {P : Po} (hf : fd.length < sizeLine) (k : P.nx [.pot true, .sh (.int m), .sh (.int w), a3, a4, a5, a6, a7, .ol false (fd ++ [dIt .label]), a9, a10, a11, a12, a13]) :
    w__law_skeleton_6f0b0b0 [.pot true, .sh (.int m), .sh (.int w), a3, a4, a5, a6, a7, .ol false fd, a9, a10, a11, a12, a13] P :=
  ⟨⟨_, _, rfl⟩, _, rfl, rfl, _, _, _, rfl, rfl, _, rfl, hf, k⟩
def SkI (m w : Nat) (all ws : List PyData) (gs : List Nat) (rest : List PyData) (ρ : List Sl) : Prop := ∃ (b4 b5 b6 b9 b10 b11 b12 b13 : Sl) (sk : Sk), ρ = [.pot true, .sh (.int m), .sh (.int w), .ol false ws, b4, b5, b6, .ol false (dInts gs), .ol false (sk.map dIt), b9, b10, b11, b12, b13] ∧
  sk.map wordOf ++ rest = all ∧ (∀ it ∈ sk, ItOk all.length it ∧ ∀ g b l, it = .jump g b l → g ∈ gs) ∧ ∀ y ∈ rest, IsW y
theorem word_label {it : It} (h : wordOf it = .str "label") : it = .label := by
  cases it with
  | jump g b l => exact absurd (PyData.str.inj h) (by decide)
  | fill n => exact absurd (PyData.str.inj h) (by decide)
  | label => rfl
theorem c_skel_6 {gs : List Nat} (hw : ∀ y ∈ ws, IsW y) (hg : ∀ g ∈ gs, ws[g]? = some (.str "label")) (hs : gs.length ≤ 100) (hn : ∃ g ∈ gs, g < 24) (q : ∀ sk : Sk, SkOk sk → Q (.sh (dSk sk)) [.pot true, .sh (.int m), .sh (.int w)]) :
    w__law_skeleton_6 [.pot true, .sh (.int m), .sh (.int w), .ol false ws, a4, a5, a6, .ol false (dInts gs), .ol false [], a9, a10, a11, a12, a13] (bodyP [.pot true, .sh (.int m), .sh (.int w)] Q E) := by
  have ec : cutD ws none (some 24) = ws.take 24 := cutD_take (k := 24)
  have n24 : (ws.take 24).length ≤ 24 := by rw [List.length_take]; omega
  refine ⟨_, rfl, _, rfl, none, some 24, rfl, rfl, _, _, rfl, rfl, SkI m w (ws.take 24) ws gs, ?_, ?_, ?_⟩
  · refine ⟨_, _, _, _, _, _, _, _, [], rfl, ?_, fun it h => (nomatch h), fun y hy => hw y (cutD_mem hy)⟩
    rw [ec]
    rfl
  · rintro ρ ⟨b4, b5, b6, b9, b10, b11, b12, b13, sk, rfl, hl, hi, _⟩
    rw [List.append_nil] at hl
    have ll : sk.length = (ws.take 24).length := by rw [← hl, List.length_map]
    refine c_skel_7 (q sk ⟨by omega, fun it h => by
      rw [ll]
      exact (hi it h).1, fun j g b l hj => ?_⟩)
    have h1 := hi _ (List.mem_of_getElem? hj)
    have h2 : g < (ws.take 24).length := h1.1.1
    have h3 := hg g (h1.2 g b l rfl)
    have h4 : (sk.map wordOf)[g]? = some (.str "label") := by
      rw [hl, List.getElem?_take_of_lt (by omega)]
      exact h3
    rw [List.getElem?_map] at h4
    cases h5 : sk[g]? with
    | none => rw [h5] at h4; exact nomatch h4
    | some it =>
      rw [h5] at h4
      rw [word_label (Option.some.inj h4)]
  · rintro d rest ρ ⟨b4, b5, b6, b9, b10, b11, b12, b13, sk, rfl, hl, hi, hy⟩
    have hlen : sk.length + (rest.length + 1) = (ws.take 24).length := by
      rw [← hl, List.length_append, List.length_map, List.length_cons]
    have hsk : (sk.map dIt).length < sizeLine := by
      rw [List.length_map]
      exact small1000 (by omega)
    have hl' : ∀ it : It, wordOf it = d → (sk ++ [it]).map wordOf ++ rest = ws.take 24 := fun it e => by
      rw [List.map_append, List.append_assoc, List.map_singleton, e]
      exact hl
    have hi' : ∀ it : It, (ItOk (ws.take 24).length it ∧ ∀ g b l, it = .jump g b l → g ∈ gs) → ∀ x ∈ sk ++ [it], ItOk (ws.take 24).length x ∧ ∀ g b l, x = .jump g b l → g ∈ gs := fun it h x hx => by
      rcases List.mem_append.mp hx with hx | hx
      · exact hi x hx
      · rw [List.mem_singleton.mp hx]; exact h
    have hm : ∀ it : It, (sk.map dIt ++ [dIt it]) = (sk ++ [it]).map dIt := fun it => by rw [List.map_append]; rfl
    have hr : ∀ y ∈ rest, IsW y := fun y h => hy y (List.mem_cons_of_mem _ h)
    refine ⟨rfl, ?_⟩
    rcases hy d (by simp) with rfl | rfl | rfl
    · refine ⟨_, rfl, pEq_str ⟨_, rfl, c_skel_jump hs hn hsk fun g b l x9 x10 x11 x13 h1 h2 h3 h4 h5 h6 => ?_⟩⟩
      have gn : g < (ws.take 24).length := by
        have := lt_of_get (hg g h1)
        rw [List.length_take]
        omega
      exact ⟨_, _, _, _, _, _, _, _, sk ++ [.jump g b l], by rw [← hm], hl' _ rfl, hi' (.jump g b l) ⟨⟨gn, h3, h4, h5, h6⟩, fun _ _ _ e => by cases e; exact h1⟩, hr⟩
    · refine ⟨_, rfl, pEq_str ⟨_, rfl, _, rfl, pEq_str ⟨_, rfl, c_skel_fill hsk fun c h1 => ?_⟩⟩⟩
      exact ⟨_, _, _, _, _, _, _, _, sk ++ [.fill c], by rw [← hm], hl' _ rfl, hi' (.fill c) ⟨h1, fun _ _ _ e => (nomatch e)⟩, hr⟩
    · refine ⟨_, rfl, pEq_str ⟨_, rfl, _, rfl, pEq_str ⟨_, rfl, c_skel_label hsk ?_⟩⟩⟩
      exact ⟨_, _, _, _, _, _, _, _, sk ++ [.label], by rw [← hm], hl' _ rfl, hi' .label ⟨trivial, fun _ _ _ e => (nomatch e)⟩, hr⟩
theorem c_skel_5 (hw : ∀ y ∈ ws, IsW y) (hl : ws.length ≤ 30) (hn : ∃ p, p < 24 ∧ ws[p]? = some (.str "label")) (q : ∀ sk : Sk, SkOk sk → Q (.sh (dSk sk)) [.pot true, .sh (.int m), .sh (.int w)]) :
    w__law_skeleton_5 [.pot true, .sh (.int m), .sh (.int w), .ol false ws, a4, a5, a6, a7, a8, a9, a10, a11, a12, a13] (bodyP [.pot true, .sh (.int m), .sh (.int w)] Q E) := by
  refine ⟨_, _, rfl, ?_, ?_⟩
  · rw [enumD_len]
    exact Nat.le_trans hl (by decide)
  · refine comp_go (gWord (.str "label")) ?_ ?_ ?_
    · exact ⟨⟨_, rfl⟩, trivial⟩
    · intro d hd K k
      obtain ⟨i, x, rfl, _, hx⟩ := mem_enumG hd
      obtain ⟨y, rfl⟩ := (hw x (List.mem_of_getElem? hx)).str
      refine ⟨_, rfl, rfl, rfl, rfl, _, rfl, pEq_str ⟨_, rfl, iteb (fun e => ?_) fun e => ?_⟩⟩
      · rw [show gWord (.str "label") (.tuple [.int i, .str y]) = some (.int i) from if_pos e] at k
        exact ⟨_, rfl, k⟩
      · rw [show gWord (.str "label") (.tuple [.int i, .str y]) = none from if_neg (by rw [show PyData.eqv (.str y) (.str "label") = false from e]; decide)] at k
        exact k
    · rw [enum_places]
      refine ⟨_, rfl, rfl, rfl, rfl, c_skel_6 hw (fun g hg => ?_) (Nat.le_trans placesOf_len (by omega)) ?_ q⟩
      · obtain ⟨_, y, h1, h2⟩ := mem_places.mp hg
        obtain ⟨x, rfl⟩ := (hw y (List.mem_of_getElem? h1)).str
        have h2 : (x == ("label" : Str)) = true := h2
        rw [← eq_of_beq h2]
        exact h1
      · obtain ⟨p, h1, h2⟩ := hn
        exact ⟨p, mem_places.mpr ⟨Nat.zero_le _, _, h2, rfl⟩, h1⟩
def FrI (m w : Nat) (ws js : List PyData) (a5 a7 a8 a9 a10 a11 a12 a13 : Sl) (rest : List PyData) (ρ : List Sl) : Prop := ∃ (b4 : Sl) (ws' : List PyData), ρ = [.pot true, .sh (.int m), .sh (.int w), .ol false ws', b4, a5, .ol false js, a7, a8, a9, a10, a11, a12, a13] ∧ ws'.length = ws.length ∧ (∀ y ∈ ws', IsW y) ∧
  (∀ p : Nat, ws[p]? = some (.str "label") → ws'[p]? = some (.str "label")) ∧ ∀ y ∈ rest, ∃ i : Nat, y = .int i ∧ ws[i]? = some (.str "jump")
theorem c_skel_4 {js : List PyData} (hw : ∀ y ∈ ws, IsW y) (hl : ws.length ≤ 30) (hn : ∃ p, p < 24 ∧ ws[p]? = some (.str "label")) (hj : ∀ y ∈ js, ∃ i : Nat, y = .int i ∧ ws[i]? = some (.str "jump")) (q : ∀ sk : Sk, SkOk sk → Q (.sh (dSk sk)) [.pot true, .sh (.int m), .sh (.int w)]) :
    w__law_skeleton_4 [.pot true, .sh (.int m), .sh (.int w), .ol false ws, a4, a5, .ol false js, a7, a8, a9, a10, a11, a12, a13] (bodyP [.pot true, .sh (.int m), .sh (.int w)] Q E) := by
  refine ⟨_, rfl, _, rfl, some (m : Int), none, rfl, rfl, _, _, rfl, rfl, FrI m w ws js a5 a7 a8 a9 a10 a11 a12 a13, ?_, ?_, ?_⟩
  · exact ⟨a4, ws, rfl, rfl, hw, fun p h => h, fun y hy => hj y (cutD_mem hy)⟩
  · rintro ρ ⟨b4, ws', rfl, h1, h2, h3, _⟩
    obtain ⟨p, p1, p2⟩ := hn
    exact c_skel_5 h2 (by omega) ⟨p, p1, h3 p p2⟩ q
  · rintro d rest ρ ⟨b4, ws', rfl, h1, h2, h3, h4⟩
    obtain ⟨i, rfl, hi⟩ := h4 d (by simp)
    have il : i < ws'.length := by rw [h1]; exact lt_of_get hi
    refine ⟨rfl, _, rfl, ⟨_, _, rfl⟩, _, _, _, i, rfl, rfl, ixN_nat il, ?_⟩
    refine ⟨_, ws'.set i (.str "fill"), rfl, by rw [List.length_set]; exact h1, fun y hy => ?_, fun p hp => ?_, fun y hy => h4 y (List.mem_cons_of_mem _ hy)⟩
    · rcases List.mem_or_eq_of_mem_set hy with hy | rfl
      · exact h2 y hy
      · exact .inr (.inl rfl)
    · have : i ≠ p := by
        rintro rfl
        rw [hi] at hp
        exact absurd (PyData.str.inj (Option.some.inj hp)) (by decide)
      rw [List.getElem?_set_ne this]
      exact h3 p hp
theorem c_skel_3 (hw : ∀ y ∈ ws, IsW y) (hl : ws.length ≤ 30) (hn : ∃ p, p < 24 ∧ ws[p]? = some (.str "label")) (q : ∀ sk : Sk, SkOk sk → Q (.sh (dSk sk)) [.pot true, .sh (.int m), .sh (.int w)]) :
    w__law_skeleton_3 [.pot true, .sh (.int m), .sh (.int w), .ol false ws, a4, a5, a6, a7, a8, a9, a10, a11, a12, a13] (bodyP [.pot true, .sh (.int m), .sh (.int w)] Q E) := by
  refine ⟨_, _, rfl, ?_, ?_⟩
  · rw [enumD_len]
    exact Nat.le_trans hl (by decide)
  · refine comp_le (fun y => ∃ i : Nat, y = .int i ∧ ws[i]? = some (.str "jump")) ?_ ?_ fun acc hl ha => ?_
    · exact ⟨⟨_, rfl⟩, trivial⟩
    · intro d hd K k0 k
      obtain ⟨i, x, rfl, _, hx⟩ := mem_enumG hd
      obtain ⟨y, rfl⟩ := (hw x (List.mem_of_getElem? hx)).str
      refine ⟨_, rfl, rfl, rfl, rfl, _, rfl, pEq_str ⟨_, rfl, iteb (fun e => ?_) fun e => ?_⟩⟩
      · exact ⟨_, rfl, k _ ⟨i, rfl, by rw [← eq_of_beq e]; exact hx⟩⟩
      · exact k0
    · exact ⟨rfl, c_skel_4 hw (by assumption) hn ha q⟩
theorem c_skel_2 (hw : ∀ y ∈ ws, IsW y) (hl : ws.length ≤ 28) (hn : ws.length < 24 ∨ ∃ p, p < 20 ∧ ws[p]? = some (.str "label")) (q : ∀ sk : Sk, SkOk sk → Q (.sh (dSk sk)) [.pot true, .sh (.int m), .sh (.int w)]) :
    w__law_skeleton_2 [.pot true, .sh (.int m), .sh (.int w), .ol false ws, a4, a5, a6, a7, a8, a9, a10, a11, a12, a13] (bodyP [.pot true, .sh (.int m), .sh (.int w)] Q E) := by
  refine ⟨⟨_, _, rfl⟩, _, rfl, _, rfl, _, rfl, rfl, ws.length + 1, rfl, by omega, by omega, fun i hi => ⟨_, _, _, rfl, rfl, i, _, rfl, ?_, by omega, by omega, ?_⟩⟩
  · exact small1000 (by omega)
  · rw [Int.toNat_natCast]
    refine c_skel_3 (fun y hy => ?_) ?_ ?_ q
    · simp only [List.append_assoc, List.mem_append, List.mem_cons, List.not_mem_nil, or_false] at hy
      rcases hy with hy | rfl | hy
      · exact hw y (List.mem_of_mem_take hy)
      · exact .inr (.inr rfl)
      · exact hw y (List.mem_of_mem_drop hy)
    · simp only [List.length_append, List.length_take, List.length_drop, List.length_cons, List.length_nil]
      omega
    · rcases hn with hn | ⟨p, h1, h2⟩
      · refine ⟨i, by omega, ?_⟩
        rw [List.append_assoc, List.getElem?_append_right (by rw [List.length_take]; omega), List.length_take, Nat.min_eq_left (by omega), Nat.sub_self]
        rfl
      · have pl := lt_of_get h2
        by_cases hp : p < i
        · refine ⟨p, by omega, ?_⟩
          rw [List.append_assoc, List.getElem?_append_left (by rw [List.length_take]; omega), List.getElem?_take_of_lt hp]
          exact h2
        · refine ⟨p + 1, by omega, ?_⟩
          rw [List.append_assoc, List.getElem?_append_right (by rw [List.length_take]; omega), List.length_take, Nat.min_eq_left (by omega), List.getElem?_append_right (by rw [List.length_singleton]; omega), List.length_singleton, List.getElem?_drop]
          rw [show i + (p + 1 - i - 1) = p by omega]
          exact h2
theorem c_skel_1 (hw : ∀ y ∈ ws, IsW y) (hl : ws.length ≤ 21) (q : ∀ sk : Sk, SkOk sk → Q (.sh (dSk sk)) [.pot true, .sh (.int m), .sh (.int w)]) :
    w__law_skeleton_1 [.pot true, .sh (.int m), .sh (.int w), .ol false ws, a4, a5, a6, a7, a8, a9, a10, a11, a12, a13] (bodyP [.pot true, .sh (.int m), .sh (.int w)] Q E) := by
  refine ⟨_, rfl, rfl, 2, rfl, by decide, by decide, fun i hi => ⟨_, rfl, pEq_int ⟨_, rfl, iteB (fun _ => ?_) fun _ => ?_⟩⟩⟩
  · have e1 : cutD ws none (some 2) = ws.take 2 := cutD_take (k := 2)
    have l1 : (cutD ws (some 2) none).length ≤ 21 := Nat.le_trans cutD_len hl
    refine ⟨_, rfl, _, rfl, none, some 2, rfl, rfl, _, rfl, rfl, _, rfl, ?_, _, rfl, _, rfl, some 2, none, rfl, rfl, _, rfl, ?_, rfl, c_skel_2 (fun y hy => ?_) ?_ (.inr ?_) q⟩
    · exact Nat.le_trans (Nat.add_le_add_right (Nat.le_trans cutD_len hl) 4) (by decide)
    · rw [List.length_append]
      exact Nat.le_trans (Nat.add_le_add (Nat.add_le_add_right (Nat.le_trans cutD_len hl) 4) l1) (by decide)
    · rcases List.mem_append.mp hy with hy | hy
      · rcases List.mem_append.mp hy with hy | hy
        · exact hw y (cutD_mem hy)
        · have z : y = .str "jump" ∨ y = .str "jump" ∨ y = .str "fill" ∨ y = .str "label" := by simpa using hy
          rcases z with rfl | rfl | rfl | rfl
          · exact .inl rfl
          · exact .inl rfl
          · exact .inr (.inl rfl)
          · exact .inr (.inr rfl)
      · exact hw y (cutD_mem hy)
    · rw [List.length_append, List.length_append]
      have : (cutD ws none (some 2)).length ≤ 2 := by rw [e1, List.length_take]; omega
      exact Nat.le_trans (Nat.add_le_add (Nat.add_le_add_right this 4) l1) (by omega)
    · have l2 : (cutD ws none (some 2)).length ≤ 2 := by rw [e1, List.length_take]; omega
      refine ⟨(cutD ws none (some 2)).length + 3, by omega, ?_⟩
      rw [List.append_assoc, List.getElem?_append_right (by omega), Nat.add_sub_cancel_left]
      rfl
  · exact c_skel_2 hw (by omega) (.inl (by omega)) q
end
theorem c__law_skeleton (as : List Sl) (Q : R → List Sl → Prop) (E : Exc → List Sl → Prop) (h : φ__law_skeleton as Q E) : body 11 w__law_skeleton as Q E := by
  obtain ⟨m, w, rfl, h1, h2, q⟩ := h
  exact ⟨_, rfl, rfl, w, rfl, h1, by omega, fun ws hl hw => ⟨rfl, c_skel_1 hw (by omega) q⟩⟩

theorem d__law_skeleton {P : Program} {w : World} {K : PySem.W.Frag} {mg : Str → Option Value} {base : Heap} {T : Xd} (z : Txt mg) (F__law_words : Fd P w K mg base (Gs K) T 3 2 "_law_words" ["stock", "most"] [] φ__law_words) (F__law_draw : Fd P w K mg base (Gs K) T 1 2 "_law_draw" ["stock", "size"] [] φ__law_draw) (F__law_pick : Fd P w K mg base (Gs K) T 2 2 "_law_pick" ["stock", "row"] [] φ__law_pick) (W : Wr K mg "_law_skeleton" s__law_skeleton) : Fd P w K mg base (Gs K) T 4 3 "_law_skeleton" ["stock", "most", "wide"] [] φ__law_skeleton :=
  Fd.of W sc__law_skeleton (fun _ _ _ _ _ _ us hl => match us, hl with | [_, _, _], _ => rfl) bk0 rfl rfl rfl (fun f cdv A outer s H E pl => b__law_skeleton z F__law_words F__law_draw F__law_pick f cdv A outer s H E pl) c__law_skeleton φ__law_skeleton_mono
def φ__law_jumps : Spc := fun as Q _ => ∃ sk : Sk, as = [.sh (dSk sk)] ∧ sk.length ≤ 1000 ∧ Q (.ol (dInts (jumpsOf 0 sk))) as
theorem φ__law_jumps_mono : MonoS φ__law_jumps := fun as Q Q' E E' h _ ⟨sk, e, e2, q⟩ => ⟨sk, e, e2, h _ _ q⟩
--go: ⟨_, rfl, by have := (‹SkOk _›).1; omega, ?_⟩

def w__law_jumps : WS := seqS (retS (compI (enumI (vwG 0)) [1, 2] (tupT [1, 2]) (valT (primW pEq (seqA [ofE (primW pIx (seqA [vwG 2, ofE (conE (.int 0))])), ofE (conE (.str "jump"))]))) (varE 1))) nxS
theorem b__law_jumps {P : Program} {w : World} {K : PySem.W.Frag} {mg : Str → Option Value} {base : Heap} {G : Wd} {T : Xd} (z : Txt mg) (f : Addr) (cdv : Value) (A : Around) (outer : List Env) (s : Shared) (H : Hp) (E : XK) (pl : Plc G 0 (fun cls d _ H => E cls d H) (cxD P w K mg base ["skeleton", "place", "item"] "_law_jumps" (defScope s__law_jumps) f cdv A outer s H E)) :
    Bs G T (fun cls d _ H => E cls d H) (cxD P w K mg base ["skeleton", "place", "item"] "_law_jumps" (defScope s__law_jumps) f cdv A outer s H E) (defBody s__law_jumps) w__law_jumps :=
  (bC (sRet (eComp [("place", 1), ("item", 2)] pl sc__law_jumps.nd (iEnumI pl z.enumerate (vG 0)) (fun s H C cl fp pl => ⟨(gT pl (gsC (gN 1 sc__law_jumps.nd) (gsC (gN 2 sc__law_jumps.nd) gsN))), (ts1 (tCmp (cEq pl) (ixE pl (vG 2) kI.g).g kS.g)), (vE 1)⟩))) bN)
theorem c__law_jumps (as : List Sl) (Q : R → List Sl → Prop) (E : Exc → List Sl → Prop) (h : φ__law_jumps as Q E) : body 2 w__law_jumps as Q E := by
  obtain ⟨sk, rfl, h1, q⟩ := h
  refine ⟨_, _, rfl, ?_, ?_⟩
  · rw [enumD_len, List.length_map]
    exact Nat.le_trans h1 (by decide)
  · refine comp_go gJump ?_ ?_ ?_
    · exact trivial
    · intro d hd K k
      obtain ⟨i, x, rfl, _, _, hx⟩ := mem_enumD hd
      obtain ⟨it, _, rfl⟩ := List.mem_map.mp hx
      cases it with
      | jump g b l => exact ⟨_, rfl, rfl, rfl, rfl, _, rfl, _, rfl, _, rfl, pEq_str ⟨_, rfl, _, rfl, k⟩⟩
      | fill n => exact ⟨_, rfl, rfl, rfl, rfl, _, rfl, _, rfl, _, rfl, pEq_str ⟨_, rfl, k⟩⟩
      | label => exact ⟨_, rfl, rfl, rfl, rfl, _, rfl, _, rfl, _, rfl, pEq_str ⟨_, rfl, k⟩⟩
    · rw [enum_jumps]
      exact ⟨_, rfl, q⟩

theorem d__law_jumps {P : Program} {w : World} {K : PySem.W.Frag} {mg : Str → Option Value} {base : Heap} {T : Xd} (z : Txt mg) (W : Wr K mg "_law_jumps" s__law_jumps) : Fd P w K mg base (Gs K) T 1 1 "_law_jumps" ["skeleton"] [] φ__law_jumps :=
  Fd.of W sc__law_jumps (fun _ _ _ _ _ _ us hl => match us, hl with | [_], _ => rfl) bk0 rfl rfl rfl (fun f cdv A outer s H E pl => b__law_jumps z f cdv A outer s H E pl) c__law_jumps φ__law_jumps_mono
def φ__law_laying : Spc := fun as Q _ => ∃ (sk : Sk) (ls : List Int) (ch : List Nat) (c : PyData), as = [.sh (dSk sk), .sh (dNums ls), .sh c] ∧ IsRow c ch ∧ sk.length ≤ ls.length ∧ sk.length ≤ 1000 ∧ (∀ it ∈ sk, FillOk it) ∧ Q (.ol ((lay ls ch sk).map dSpot)) as
theorem φ__law_laying_mono : MonoS φ__law_laying := fun as Q Q' E E' h _ ⟨sk, ls, ch, c, e, e2, e3, e4, e5, q⟩ => ⟨sk, ls, ch, c, e, e2, e3, e4, e5, h _ _ q⟩
--go: ⟨_, _, _, _, rfl, by first | exact .inl rfl | exact .inr rfl | assumption, by omega, by have := (‹SkOk _›).1; omega, (‹SkOk _›).ok, ?_⟩

def w__law_laying_2 : WS := seqS (retS (movE 4)) nxS
def w__law_laying_1f4 : WS := seqS (dropS (mthE 4 (seqA [ofE (tupE (seqA [ofE (varE 7), ofE (varE 3)]))]) mApp)) nxS
def w__law_laying_1f3a0 : WS := seqS (asgS 3 (primW pAdd (seqA [vwG 3, ofE (primW pIx (seqA [vwG 6, ofE (ifE (valT (primW pIn (seqA [vwG 5, vwG 2]))) (conE (.int 3)) (conE (.int 2)))]))]))) nxS
def w__law_laying_1f3 : WS := seqS (ifS (valT (primW pEq (seqA [ofE (primW pIx (seqA [vwG 6, ofE (conE (.int 0))])), ofE (conE (.str "jump"))]))) (w__law_laying_1f3a0) (nxS)) w__law_laying_1f4
def w__law_laying_1f2a0 : WS := seqS (asgS 3 (primW pMul (seqA [ofE (primW pDiv (seqA [ofE (primW pSub (seqA [ofE (primW pAdd (seqA [vwG 3, ofE (primW pIx (seqA [vwG 6, ofE (conE (.int 1))]))])), ofE (conE (.int 1))])), ofE (primW pIx (seqA [vwG 6, ofE (conE (.int 1))]))])), ofE (primW pIx (seqA [vwG 6, ofE (conE (.int 1))]))]))) nxS
def w__law_laying_1f2 : WS := seqS (ifS (valT (primW pEq (seqA [ofE (primW pIx (seqA [vwG 6, ofE (conE (.int 0))])), ofE (conE (.str "fill"))]))) (w__law_laying_1f2a0) (nxS)) w__law_laying_1f3
def w__law_laying_1f1 : WS := seqS (asgS 7 (varE 3)) w__law_laying_1f2
def w__law_laying_1f0 : WS := seqS (asgS 3 (primW pAdd (seqA [vwG 3, ofE (primW pIx (seqA [vwG 1, vwG 5]))]))) w__law_laying_1f1
def w__law_laying_1 : WS := seqS (forI (enumI (ofE (varE 0))) (tupT [5, 6]) (w__law_laying_1f0)) w__law_laying_2
def w__law_laying : WS := seqS (parS2 3 4 (conE (.int 0)) (lstE (seqA []))) w__law_laying_1
theorem b__law_laying {P : Program} {w : World} {K : PySem.W.Frag} {mg : Str → Option Value} {base : Heap} {G : Wd} {T : Xd} (z : Txt mg) (f : Addr) (cdv : Value) (A : Around) (outer : List Env) (s : Shared) (H : Hp) (E : XK) (pl : Plc G 0 (fun cls d _ H => E cls d H) (cxD P w K mg base ["skeleton", "lengths", "choice", "here", "found", "place", "item", "begin"] "_law_laying" (defScope s__law_laying) f cdv A outer s H E)) :
    Bs G T (fun cls d _ H => E cls d H) (cxD P w K mg base ["skeleton", "lengths", "choice", "here", "found", "place", "item", "begin"] "_law_laying" (defScope s__law_laying) f cdv A outer s H E) (defBody s__law_laying) w__law_laying :=
  (bC (sPar2 3 4 pl sc__law_laying.nd kI (eLst aN)) (bC (sFor pl (iEnumI pl z.enumerate (vE 0).g) (gT pl (gsC (gN 5 sc__law_laying.nd) (gsC (gN 6 sc__law_laying.nd) gsN))) (bC (sAsg 3 sc__law_laying.nd (bAdd pl (vG 3) (ixE pl (vG 1) (vG 5)).g)) (bC (sAsg 7 sc__law_laying.nd (vE 3)) (bC (sIf (tCmp (cEq pl) (ixE pl (vG 6) kI.g).g kS.g) (bC (sAsg 3 sc__law_laying.nd (bMul (bDiv (bSub (bAdd pl (vG 3) (ixE pl (vG 6) kI.g).g).g kI.g).g (ixE pl (vG 6) kI.g).g).g (ixE pl (vG 6) kI.g).g)) bN) bN) (bC (sIf (tCmp (cEq pl) (ixE pl (vG 6) kI.g).g kS.g) (bC (sAsg 3 sc__law_laying.nd (bAdd pl (vG 3) (ixE pl (vG 6) (eIf (tCmp (cIn pl) (vG 5) (vG 2)) kI kI).g).g)) bN) bN) (bC (sExpr (mAppend 4 pl (aC (eTup (aC (vE 7).g (aC (vE 3).g aN))).g aN))) bN)))))) (bC (sRet (mE 4)) bN)))
def LyI (sk : Sk) (ls : List Int) (ch : List Nat) (c : PyData) (rest : List PyData) (ρ : List Sl) : Prop := ∃ (k : Nat) (sr : Sk) (h : Int) (sp : List (Int × Int)) (b5 b6 b7 : Sl), rest = enumD k (sr.map dIt) ∧ ρ = [.sh (dSk sk), .sh (dNums ls), .sh c, .sh (.int h), .ol false (sp.map dSpot), b5, b6, b7] ∧
  sp ++ layGo ls ch k h sr = lay ls ch sk ∧ k + sr.length = sk.length ∧ sp.length = k ∧ ∀ it ∈ sr, FillOk it
theorem c_lying_end {sk : Sk} {ls : List Int} {ch : List Nat} {c : PyData} {k : Nat} {sr : Sk} {it : It} {h : Int} {sp : List (Int × Int)} {b6 : Sl} {P : Po}
    (e2 : sp ++ layGo ls ch k h (it :: sr) = lay ls ch sk) (e3 : k + (it :: sr).length = sk.length) (e4 : sp.length = k) (hs : sk.length ≤ 1000) (hf : ∀ x ∈ it :: sr, FillOk x)
    (q : ∀ ρ, LyI sk ls ch c (enumD (k + 1) (sr.map dIt)) ρ → P.nx ρ) :
    w__law_laying_1f4 [.sh (dSk sk), .sh (dNums ls), .sh c, .sh (.int (h + ls.getD k 0 + bytesAt it (h + ls.getD k 0) (ch.contains k))), .ol false (sp.map dSpot), .sh (.int k), b6, .sh (.int (h + ls.getD k 0))] P := by
  refine ⟨⟨_, _, rfl⟩, _, rfl, rfl, _, _, _, rfl, rfl, _, rfl, ?_, ?_⟩
  · rw [List.length_map]
    rw [List.length_cons] at e3
    exact small1000 (by omega)
  · have hm : ∀ p : Int × Int, sp.map dSpot ++ [dSpot p] = (sp ++ [p]).map dSpot := fun p => by rw [List.map_append]; rfl
    refine q _ ⟨k + 1, sr, _, sp ++ [(h + ls.getD k 0, h + ls.getD k 0 + bytesAt it (h + ls.getD k 0) (ch.contains k))], _, _, _, rfl, by rw [← hm]; rfl, ?_, by rw [List.length_cons] at e3; omega, by rw [List.length_append, e4]; rfl, fun x hx => hf x (List.mem_cons_of_mem _ hx)⟩
    rw [← e2, List.append_assoc]
    rfl
theorem c__law_laying (as : List Sl) (Q : R → List Sl → Prop) (E : Exc → List Sl → Prop) (h : φ__law_laying as Q E) : body 5 w__law_laying as Q E := by
  obtain ⟨sk, ls, ch, c, rfl, hc, h1, h2, h3, q⟩ := h
  refine ⟨_, rfl, rfl, rfl, rfl, _, _, rfl, rfl, LyI sk ls ch c, ?_, ?_, ?_⟩
  · exact ⟨0, sk, 0, [], _, _, _, rfl, rfl, rfl, Nat.zero_add _, rfl, h3⟩
  · rintro ρ ⟨k, sr, h, sp, b5, b6, b7, e, rfl, e2, e3, e4, _⟩
    cases sr with
    | cons it sr => exact nomatch e
    | nil =>
      have e2 : sp ++ [] = lay ls ch sk := e2
      rw [List.append_nil] at e2
      subst e2
      exact ⟨_, rfl, q⟩
  · rintro d rest ρ ⟨k, sr, h, sp, b5, b6, b7, e, rfl, e2, e3, e4, hf⟩
    cases sr with
    | nil => exact nomatch e
    | cons it sr =>
      rw [List.map_cons, enumD] at e
      obtain ⟨rfl, rfl⟩ := List.cons.inj e
      have lk : k < ls.length := by rw [List.length_cons] at e3; omega
      have fo := hf it (by simp)
      have go := fun b6 P q => c_lying_end (sk := sk) (ls := ls) (ch := ch) (c := c) (b6 := b6) (P := P) e2 e3 e4 h2 hf q
      refine ⟨_, rfl, rfl, rfl, rfl, _, rfl, _, nums_at lk, _, rfl, rfl, rfl, ?_⟩
      cases it with
      | label =>
        have go : ∀ b6 P, _ → w__law_laying_1f4 [.sh (dSk sk), .sh (dNums ls), .sh c, .sh (.int (h + ls.getD k 0 + 0)), .ol false (sp.map dSpot), .sh (.int k), b6, .sh (.int (h + ls.getD k 0))] P := go
        rw [Int.add_zero] at go
        exact ⟨_, rfl, _, rfl, _, rfl, pEq_str ⟨_, rfl, _, rfl, _, rfl, _, rfl, pEq_str ⟨_, rfl, go _ _ fun ρ q => q⟩⟩⟩
      | fill n =>
        have go : ∀ b6 P, _ → w__law_laying_1f4 [.sh (dSk sk), .sh (dNums ls), .sh c, .sh (.int (h + ls.getD k 0 + (-(h + ls.getD k 0)) % n)), .ol false (sp.map dSpot), .sh (.int k), b6, .sh (.int (h + ls.getD k 0))] P := go
        rw [← round_up fo.1] at go
        have f1 : 0 < n := fo.1
        have f2 : n < 1073741824 := fo.2
        exact ⟨_, rfl, _, rfl, _, rfl, pEq_str ⟨_, rfl, _, rfl, _, rfl, _, rfl, _, rfl, _, _, rfl, _, rfl, _, rfl, _, rfl, _, _, rfl, fo, _, rfl, _, rfl, _, rfl, .inr ⟨by omega, by omega⟩, rfl, _, rfl, _, rfl, _, rfl, pEq_str ⟨_, rfl, go _ _ fun ρ q => q⟩⟩⟩
      | jump g b l =>
        have go : ∀ b6 P, _ → w__law_laying_1f4 [.sh (dSk sk), .sh (dNums ls), .sh c, .sh (.int (h + ls.getD k 0 + if ch.contains k = true then l else b)), .ol false (sp.map dSpot), .sh (.int k), b6, .sh (.int (h + ls.getD k 0))] P := go
        refine ⟨_, rfl, _, rfl, _, rfl, pEq_str ⟨_, rfl, _, rfl, _, rfl, _, rfl, pEq_str ⟨_, rfl, _, rfl, pIn_row hc ⟨_, rfl, iteb (fun e => ?_) fun e => ?_⟩⟩⟩⟩
        · rw [if_pos e] at go
          exact ⟨_, rfl, _, rfl, _, rfl, rfl, go _ _ fun ρ q => q⟩
        · rw [if_neg (by rw [e]; decide)] at go
          exact ⟨_, rfl, _, rfl, _, rfl, rfl, go _ _ fun ρ q => q⟩

theorem d__law_laying {P : Program} {w : World} {K : PySem.W.Frag} {mg : Str → Option Value} {base : Heap} {T : Xd} (z : Txt mg) (W : Wr K mg "_law_laying" s__law_laying) : Fd P w K mg base (Gs K) T 1 3 "_law_laying" ["skeleton", "lengths", "choice"] [] φ__law_laying :=
  Fd.of W sc__law_laying (fun _ _ _ _ _ _ us hl => match us, hl with | [_, _, _], _ => rfl) bk0 rfl rfl rfl (fun f cdv A outer s H E pl => b__law_laying z f cdv A outer s H E pl) c__law_laying φ__law_laying_mono
def φ__law_way : Spc := fun as Q _ => ∃ (sk : Sk) (ls : List Int) (ch : List Nat) (c : PyData) (j g : Nat) (b l : Int), as = [.sh (dSk sk), .sh (dNums ls), .sh c, .sh (.int j)] ∧ IsRow c ch ∧ ch.length ≤ 1000 ∧ sk.length ≤ ls.length ∧ sk.length ≤ 1000 ∧ (∀ it ∈ sk, FillOk it) ∧ sk[j]? = some (.jump g b l) ∧ g < sk.length ∧ Q (.sh (.int (wayOf sk ls ch j g))) as
theorem φ__law_way_mono : MonoS φ__law_way := fun as Q Q' E E' h _ ⟨sk, ls, ch, c, j, g, b, l, e, e2, e3, e4, e5, e6, e7, e8, q⟩ => ⟨sk, ls, ch, c, j, g, b, l, e, e2, e3, e4, e5, e6, e7, e8, h _ _ q⟩
theorem φ__law_way_go {sk : Sk} {ls : List Int} {ch : List Nat} {c : PyData} {j g : Nat} {b l : Int} {Q : R → List Sl → Prop} {E : Exc → List Sl → Prop} (hs : SkOk sk) (h1 : sk[j]? = some (.jump g b l)) (hc : IsRow c ch) (hn : ch.length ≤ 1000) (hl : sk.length ≤ ls.length) (q : Q (.sh (.int (wayOf sk ls ch j g))) [.sh (dSk sk), .sh (dNums ls), .sh c, .sh (.int j)]) : φ__law_way [.sh (dSk sk), .sh (dNums ls), .sh c, .sh (.int j)] Q E :=
  ⟨sk, ls, ch, c, j, g, b, l, rfl, hc, hn, hl, by have := hs.1; omega, hs.ok, h1, lt_of_get (hs.2.2 j g b l h1), q⟩
--go: φ__law_way_go (by assumption) (by assumption) (by first | exact .inl rfl | exact .inr rfl | assumption) (by omega) (by omega) ?_

def w__law_way_2 : WS := seqS (retS (ifE (valT (primW pGt (seqA [vwG 6, vwG 3]))) (primW pSub (seqA [ofE (primW pIx (seqA [ofE (primW pIx (seqA [vwG 5, vwG 6])), ofE (conE (.int 0))])), ofE (primW pIx (seqA [ofE (primW pIx (seqA [vwG 5, vwG 3])), ofE (conE (.int 1))]))])) (primW pSub (seqA [ofE (primW pIx (seqA [ofE (primW pIx (seqA [vwG 5, vwG 3])), ofE (conE (.int 1))])), ofE (primW pIx (seqA [ofE (primW pIx (seqA [vwG 5, vwG 6])), ofE (conE (.int 0))]))])))) nxS
def w__law_way_1 : WS := seqS (asgS 6 (primW pIx (seqA [ofE (primW pIx (seqA [vwG 0, vwG 3])), ofE (conE (.int 1))]))) w__law_way_2
def w__law_way : WS := seqS (asgS 5 (callW φ__law_laying (seqA [ofE (varE 0), ofE (varE 1), ofE (compI (seqI (vwG 2)) [4] (nameT 4) (valT (primW pNe (seqA [vwG 4, vwG 3]))) (varE 4))]))) w__law_way_1
theorem b__law_way {P : Program} {w : World} {K : PySem.W.Frag} {mg : Str → Option Value} {base : Heap} {G : Wd} {T : Xd} (z : Txt mg) (F__law_laying : Fd P w K mg base G T 1 3 "_law_laying" ["skeleton", "lengths", "choice"] [] φ__law_laying) (f : Addr) (cdv : Value) (A : Around) (outer : List Env) (s : Shared) (H : Hp) (E : XK) (pl : Plc G 1 (fun cls d _ H => E cls d H) (cxD P w K mg base ["skeleton", "lengths", "choice", "jump", "own", "rows", "goal"] "_law_way" (defScope s__law_way) f cdv A outer s H E)) :
    Bs G T (fun cls d _ H => E cls d H) (cxD P w K mg base ["skeleton", "lengths", "choice", "jump", "own", "rows", "goal"] "_law_way" (defScope s__law_way) f cdv A outer s H E) (defBody s__law_way) w__law_way :=
  (bC (sAsg 5 sc__law_way.nd (eF pl F__law_laying (ha := (aC (vE 0).g (aC (vE 1).g (aC (eComp [("own", 4)] pl sc__law_way.nd (iSeqI pl (vG 2)) (fun s H C cl fp pl => ⟨(gN 4 sc__law_way.nd), (ts1 (tCmp (cNe pl) (vG 4) (vG 3))), (vE 4)⟩)).g aN)))))) (bC (sAsg 6 sc__law_way.nd (ixE pl (ixE pl (vG 0) (vG 3)).g kI.g)) (bC (sRet (eIf (tCmp (cGt pl) (vG 6) (vG 3)) (bSub (ixE pl (ixE pl (vG 5) (vG 6)).g kI.g).g (ixE pl (ixE pl (vG 5) (vG 3)).g kI.g).g) (bSub (ixE pl (ixE pl (vG 5) (vG 3)).g kI.g).g (ixE pl (ixE pl (vG 5) (vG 6)).g kI.g).g))) bN)))
theorem c__law_way_1 {sk : Sk} {sp : List (Int × Int)} {a1 a2 : PyData} {a4 a6 : Sl} {j g : Nat} {b l : Int} (h1 : sk[j]? = some (.jump g b l)) (hj : j < sp.length) (hg : g < sp.length) {as : List Sl} {Q : R → List Sl → Prop} {E : Exc → List Sl → Prop}
    (ha : as = [.sh (dSk sk), .sh a1, .sh a2, .sh (.int j)]) (q : Q (.sh (.int (wayB sp j g))) as) :
    w__law_way_1 [.sh (dSk sk), .sh a1, .sh a2, .sh (.int j), a4, .ol false (sp.map dSpot), a6] (bodyP as Q E) := by
  subst ha
  refine ⟨_, rfl, _, dSk_at h1, _, rfl, _, rfl, rfl, _, rfl, pGt_int ⟨_, rfl, iteB (fun e => ?_) fun e => ?_⟩⟩
  · rw [show wayB sp j g = _ from if_pos (by omega)] at q
    exact ⟨_, rfl, _, spot_at hg, _, rfl, _, rfl, _, rfl, _, spot_at hj, _, rfl, _, rfl, _, rfl, _, _, rfl, _, rfl, q⟩
  · rw [show wayB sp j g = _ from if_neg (by omega)] at q
    exact ⟨_, rfl, _, spot_at hj, _, rfl, _, rfl, _, rfl, _, spot_at hg, _, rfl, _, rfl, _, rfl, _, _, rfl, _, rfl, q⟩
theorem c__law_way (as : List Sl) (Q : R → List Sl → Prop) (E : Exc → List Sl → Prop) (h : φ__law_way as Q E) : body 3 w__law_way as Q E := by
  obtain ⟨sk, ls, ch, c, j, g, b, l, rfl, hc, hcl, h1, h2, h3, h4, h5, q⟩ := h
  have turn : ∀ (ρ : List Sl) (xq : XQ) (d : PyData), d ∈ dInts ch → ρ = [.sh (dSk sk), .sh (dNums ls), .sh c, .sh (.int j), .no, .no, .no] → ∀ K : Option PyData → List Sl → Prop, K (gOther j d) ρ → turnC [4] (nameT 4) (valT (primW pNe (seqA [vwG 4, vwG 3]))) (varE 4) d ρ K := by
    rintro ρ xq d hd rfl K k
    obtain ⟨i, _, rfl⟩ := List.mem_map.mp hd
    refine ⟨rfl, _, rfl, pNe_int ⟨_, rfl, iteb (fun e => ?_) fun e => ?_⟩⟩
    · rw [show gOther j (.int i) = some (.int i) from if_pos e] at k
      exact ⟨_, rfl, k⟩
    · rw [show gOther j (.int i) = none from if_neg (by rw [e]; decide)] at k
      exact k
  have size : (dInts ch).length ≤ sizeLine := by
    unfold dInts
    rw [List.length_map]
    exact Nat.le_trans hcl (by decide)
  have rest : ∀ c' : PyData, IsRow c' ch → φ__law_laying [.sh (dSk sk), .sh (dNums ls), .sh (.list (dInts (ch.filter fun c => decide (c ≠ j))))] (fun r outs => r = .ol ((lay ls (ch.filter fun c => decide (c ≠ j)) sk).map dSpot)) (fun _ _ => False) := fun c' _ => ⟨sk, ls, _, _, rfl, .inr rfl, h1, h2, h3, rfl⟩
  have lj : j < (lay ls (ch.filter fun c => decide (c ≠ j)) sk).length := by rw [lay_len]; exact lt_of_get h4
  have lg : g < (lay ls (ch.filter fun c => decide (c ≠ j)) sk).length := by rw [lay_len]; exact h5
  rcases hc with rfl | rfl
  · refine ⟨_, _, rfl, size, comp_goE (gOther j) (other_ints j ch) trivial (fun d hd K k => turn _ (fun _ _ => True) d hd rfl K k) ?_⟩
    exact ⟨_, rfl, rfl, sk, ls, _, _, rfl, .inr rfl, h1, h2, h3, rfl, c__law_way_1 h4 lj lg rfl q⟩
  · refine ⟨_, _, rfl, size, comp_goE (gOther j) (other_ints j ch) trivial (fun d hd K k => turn _ (fun _ _ => True) d hd rfl K k) ?_⟩
    exact ⟨_, rfl, rfl, sk, ls, _, _, rfl, .inr rfl, h1, h2, h3, rfl, c__law_way_1 h4 lj lg rfl q⟩

theorem d__law_way {P : Program} {w : World} {K : PySem.W.Frag} {mg : Str → Option Value} {base : Heap} {T : Xd} (z : Txt mg) (F__law_laying : Fd P w K mg base (Gs K) T 1 3 "_law_laying" ["skeleton", "lengths", "choice"] [] φ__law_laying) (W : Wr K mg "_law_way" s__law_way) : Fd P w K mg base (Gs K) T 2 4 "_law_way" ["skeleton", "lengths", "choice", "jump"] [] φ__law_way :=
  Fd.of W sc__law_way (fun _ _ _ _ _ _ us hl => match us, hl with | [_, _, _, _], _ => rfl) bk0 rfl rfl rfl (fun f cdv A outer s H E pl => b__law_way z F__law_laying f cdv A outer s H E pl) c__law_way φ__law_way_mono
def φ__law_lengths : Spc := fun as Q _ => ∃ (sk : Sk) (g : Bool), as = [.pot true, .sh (dSk sk), .sh (.bool g)] ∧ sk.length ≤ 1000 ∧ ∀ ls : List Int, ls.length = sk.length + 1 → (∀ x ∈ ls, 0 ≤ x ∧ x ≤ 1000000000) → Q (.sh (dNums ls)) as
theorem φ__law_lengths_mono : MonoS φ__law_lengths := fun as Q Q' E E' h _ ⟨sk, g, e, e2, q⟩ => ⟨sk, g, e, e2, fun ls h1 h2 => h _ _ (q ls h1 h2)⟩
--go: ⟨_, _, rfl, by have := (‹SkOk _›).1; omega, fun ls hl hb => ?_⟩

def w__law_lengths_2 : WS := seqS (retS (primW pTup (seqA [vwG 3]))) nxS
def w__law_lengths_1f2 : WS := seqS (dropS (mthE 3 (seqA [ofE (ifE (andT (valT (varE 2)) (valT (primW pEq (seqA [ofE (callW φ__law_draw (seqA [vwG 0, ofE (conE (.int 3))])), ofE (conE (.int 0))])))) (varE 5) (varE 6))]) mApp)) nxS
def w__law_lengths_1f1 : WS := seqS (asgS 6 (callW φ__law_pick (seqA [vwG 0, ofE (lstE (seqA [ofE (conE (.int 0)), ofE (conE (.int 0)), ofE (conE (.int 1)), ofE (conE (.int 2)), ofE (conE (.int 3)), ofE (callW φ__law_draw (seqA [vwG 0, ofE (conE (.int 12))]))]))]))) w__law_lengths_1f2
def w__law_lengths_1f0 : WS := seqS (asgS 5 (primW pSub (seqA [ofE (primW pPow (seqA [ofE (conE (.int 10)), ofE (conE (.int 9))])), ofE (callW φ__law_draw (seqA [vwG 0, ofE (conE (.int 70))]))]))) w__law_lengths_1f1
def w__law_lengths_1 : WS := seqS (forI (rng1I (seqA [ofE (primW pAdd (seqA [ofE (primW pLen (seqA [vwG 1])), ofE (conE (.int 1))]))])) (nameT 4) (w__law_lengths_1f0)) w__law_lengths_2
def w__law_lengths : WS := seqS (asgS 3 (lstE (seqA []))) w__law_lengths_1
theorem b__law_lengths {P : Program} {w : World} {K : PySem.W.Frag} {mg : Str → Option Value} {base : Heap} {G : Wd} {T : Xd} (z : Txt mg) (F__law_pick : Fd P w K mg base G T 2 2 "_law_pick" ["stock", "row"] [] φ__law_pick) (F__law_draw : Fd P w K mg base G T 1 2 "_law_draw" ["stock", "size"] [] φ__law_draw) (f : Addr) (cdv : Value) (A : Around) (outer : List Env) (s : Shared) (H : Hp) (E : XK) (pl : Plc G 2 (fun cls d _ H => E cls d H) (cxD P w K mg base ["stock", "skeleton", "is_great", "found", "place", "far", "small"] "_law_lengths" (defScope s__law_lengths) f cdv A outer s H E)) :
    Bs G T (fun cls d _ H => E cls d H) (cxD P w K mg base ["stock", "skeleton", "is_great", "found", "place", "far", "small"] "_law_lengths" (defScope s__law_lengths) f cdv A outer s H E) (defBody s__law_lengths) w__law_lengths :=
  (bC (sAsg 3 sc__law_lengths.nd (eLst aN)) (bC (sFor pl (iRng1I z.range (bAdd pl (bLen z.len (aC (vG 1) aN)).g kI.g).g) (gN 4 sc__law_lengths.nd) (bC (sAsg 5 sc__law_lengths.nd (bSub (bPow kI.g kI.g).g (eF pl F__law_draw (ha := (aC (vG 0) (aC kI.g aN)))).g)) (bC (sAsg 6 sc__law_lengths.nd (eF pl F__law_pick (ha := (aC (vG 0) (aC (eLst (aC kI.g (aC kI.g (aC kI.g (aC kI.g (aC kI.g (aC (eF pl F__law_draw (ha := (aC (vG 0) (aC kI.g aN)))).g aN))))))).g aN))))) (bC (sExpr (mAppend 3 pl (aC (eIf (tBool (vAnd (tVal (vE 2)) (vAnd1 (tCmp (cEq pl) (eF pl F__law_draw (ha := (aC (vG 0) (aC kI.g aN)))).g kI.g)))) (vE 5) (vE 6)).g aN))) bN)))) (bC (sRet (bTup pl z.tuple (aC (vG 3) aN))) bN)))
def LnI (sk : Sk) (g : Bool) (rest : List PyData) (ρ : List Sl) : Prop := ∃ (ls : List Int) (b4 b5 b6 : Sl), ρ = [.pot true, .sh (dSk sk), .sh (.bool g), .ol false (ls.map .int), b4, b5, b6] ∧ ls.length + rest.length = sk.length + 1 ∧ ∀ x ∈ ls, 0 ≤ x ∧ x ≤ 1000000000
theorem c_lengths_2 {sk : Sk} {g : Bool} {ls : List Int} {b4 : Sl} {x y : Int} {P : Po} {rest : List PyData} (hs : sk.length ≤ 1000) (hl : ls.length + (rest.length + 1) = sk.length + 1) (ha : ∀ x ∈ ls, 0 ≤ x ∧ x ≤ 1000000000) (hx : 0 ≤ x ∧ x ≤ 1000000000) (hy : 0 ≤ y ∧ y ≤ 1000000000)
    (q : ∀ ρ, LnI sk g rest ρ → P.nx ρ) :
    w__law_lengths_1f2 [.pot true, .sh (dSk sk), .sh (.bool g), .ol false (ls.map .int), b4, .sh (.int x), .sh (.int y)] P := by
  have hm : ∀ p : Int, ls.map PyData.int ++ [.int p] = (ls ++ [p]).map .int := fun p => by rw [List.map_append]; rfl
  have hq : ∀ p : Int, 0 ≤ p ∧ p ≤ 1000000000 → P.nx [.pot true, .sh (dSk sk), .sh (.bool g), .ol false (ls.map .int ++ [.int p]), b4, .sh (.int x), .sh (.int y)] := fun p hp =>
    q _ ⟨ls ++ [p], _, _, _, by rw [hm], by rw [List.length_append, List.length_singleton]; omega, fun z hz => by
      rcases List.mem_append.mp hz with hz | hz
      · exact ha z hz
      · rw [List.mem_singleton.mp hz]; exact hp⟩
  have hc : (ls.map PyData.int).length < sizeLine := by
    rw [List.length_map]
    exact Nat.lt_of_le_of_lt (show ls.length ≤ 1001 by omega) (by decide)
  refine ⟨⟨_, _, rfl⟩, ?_⟩
  cases g with
  | false => exact ⟨_, rfl, _, _, _, rfl, rfl, _, rfl, hc, hq y hy⟩
  | true =>
    refine ⟨_, rfl, _, rfl, rfl, 3, rfl, by decide, by decide, fun i hi => ⟨_, rfl, pEq_int ⟨_, rfl, iteB (fun _ => ?_) fun _ => ?_⟩⟩⟩
    · exact ⟨_, _, _, rfl, rfl, _, rfl, hc, hq x hx⟩
    · exact ⟨_, _, _, rfl, rfl, _, rfl, hc, hq y hy⟩
theorem c__law_lengths (as : List Sl) (Q : R → List Sl → Prop) (E : Exc → List Sl → Prop) (h : φ__law_lengths as Q E) : body 4 w__law_lengths as Q E := by
  obtain ⟨sk, g, rfl, h1, q⟩ := h
  refine ⟨_, rfl, rfl, rfl, _, rfl, _, rfl, _, rfl, ?_, rfl, LnI sk g, ?_, ?_, ?_⟩
  · rw [List.length_map]
    exact ⟨by omega, by omega⟩
  · refine ⟨[], _, _, _, rfl, ?_, fun x h => (nomatch h)⟩
    rw [rngD_len, List.length_map]
    show 0 + _ = _
    omega
  · rintro ρ ⟨ls, b4, b5, b6, rfl, hl, ha⟩
    exact ⟨_, rfl, _, rfl, q ls (by simpa using hl) ha⟩
  · rintro d rest ρ ⟨ls, b4, b5, b6, rfl, hl, ha⟩
    rw [List.length_cons] at hl
    have e9 : (10 : Int) ^ (Int.toNat 9) = 1000000000 := by decide
    refine ⟨rfl, _, rfl, _, _, rfl, ⟨by decide, by decide, by decide⟩, _, rfl, rfl, 70, rfl, by decide, by decide, fun i hi => ⟨_, rfl, _, _, rfl, rfl, ?_⟩⟩
    refine ⟨_, rfl, rfl, 12, rfl, by decide, by decide, fun i2 hi2 => ⟨_, rfl, rfl, _, rfl, rfl, _, rfl, by simp, by simp, fun d hd => ?_⟩⟩
    have hc : ∃ c : Int, d = .int c ∧ 0 ≤ c ∧ c ≤ 12 := by
      simp only [List.mem_cons, List.not_mem_nil, or_false] at hd
      rcases hd with rfl | rfl | rfl | rfl | rfl | rfl
      all_goals exact ⟨_, rfl, by omega, by omega⟩
    obtain ⟨c, rfl, c1, c2⟩ := hc
    exact ⟨rfl, c_lengths_2 h1 hl ha (by rw [e9]; omega) (by omega) fun ρ q => q⟩

theorem d__law_lengths {P : Program} {w : World} {K : PySem.W.Frag} {mg : Str → Option Value} {base : Heap} {T : Xd} (z : Txt mg) (F__law_pick : Fd P w K mg base (Gs K) T 2 2 "_law_pick" ["stock", "row"] [] φ__law_pick) (F__law_draw : Fd P w K mg base (Gs K) T 1 2 "_law_draw" ["stock", "size"] [] φ__law_draw) (W : Wr K mg "_law_lengths" s__law_lengths) : Fd P w K mg base (Gs K) T 3 3 "_law_lengths" ["stock", "skeleton", "is_great"] [] φ__law_lengths :=
  Fd.of W sc__law_lengths (fun _ _ _ _ _ _ us hl => match us, hl with | [_, _, _], _ => rfl) bk0 rfl rfl rfl (fun f cdv A outer s H E pl => b__law_lengths z F__law_pick F__law_draw f cdv A outer s H E pl) c__law_lengths φ__law_lengths_mono
def φ__law_some : Spc := fun as Q _ => ∃ js : List Nat, as = [.pot true, .sh (.list (dInts js))] ∧ js.length ≤ 1000 ∧ ∀ ch : List Nat, ch.Sublist js → ch.length ≤ js.length → Q (.sh (.tuple (dInts ch))) as
theorem φ__law_some_mono : MonoS φ__law_some := fun as Q Q' E E' h _ ⟨js, e, e2, q⟩ => ⟨js, e, e2, fun ls h1 h2 => h _ _ (q ls h1 h2)⟩
--go: ⟨_, rfl, by first | omega | exact Nat.le_trans (jumps24 (by assumption)) (by decide), fun ch hc hcl => ?_⟩

def w__law_some : WS := seqS (retS (primW pTup (seqA [ofE (compI (seqI (vwG 1)) [2] (nameT 2) (valT (primW pEq (seqA [ofE (callW φ__law_draw (seqA [vwG 0, ofE (conE (.int 2))])), ofE (conE (.int 0))]))) (varE 2))]))) nxS
theorem b__law_some {P : Program} {w : World} {K : PySem.W.Frag} {mg : Str → Option Value} {base : Heap} {G : Wd} {T : Xd} (z : Txt mg) (F__law_draw : Fd P w K mg base G T 1 2 "_law_draw" ["stock", "size"] [] φ__law_draw) (f : Addr) (cdv : Value) (A : Around) (outer : List Env) (s : Shared) (H : Hp) (E : XK) (pl : Plc G 1 (fun cls d _ H => E cls d H) (cxD P w K mg base ["stock", "row", "own"] "_law_some" (defScope s__law_some) f cdv A outer s H E)) :
    Bs G T (fun cls d _ H => E cls d H) (cxD P w K mg base ["stock", "row", "own"] "_law_some" (defScope s__law_some) f cdv A outer s H E) (defBody s__law_some) w__law_some :=
  (bC (sRet (bTup pl z.tuple (aC (eComp [("own", 2)] pl sc__law_some.nd (iSeqI pl (vG 1)) (fun s H C cl fp pl => ⟨(gN 2 sc__law_some.nd), (ts1 (tCmp (cEq pl) (eF pl F__law_draw (ha := (aC (vG 0) (aC kI.g aN)))).g kI.g)), (vE 2)⟩)).g aN))) bN)
theorem c__law_some (as : List Sl) (Q : R → List Sl → Prop) (E : Exc → List Sl → Prop) (h : φ__law_some as Q E) : body 1 w__law_some as Q E := by
  obtain ⟨js, rfl, h1, q⟩ := h
  have hl := dInts_len js
  (repeat' ((fail_if_success (with_reducible refine ForI.stop ?_)); (fail_if_success (with_reducible refine CompI.stop ?_)); (fail_if_success (with_reducible refine whileI.stop ?_)); first | ((with_reducible refine (id : pEq _ _ → pEq _ _) ?_); first | refine pEq_strT ?_ | refine pEq_int ?_ | refine pEq_str ?_ | refine pEq_nils ?_ | refine pEq_nilt ?_ | fail) | ((with_reducible refine (id : pNe _ _ → pNe _ _) ?_); first | refine pNe_strF ?_ | refine pNe_int ?_ | refine pNe_str ?_ | refine pNe_nils ?_ | refine pNe_nilt ?_ | fail) | ((with_reducible refine (id : pLt _ _ → pLt _ _) ?_); first | refine pLt_int ?_ | fail) | ((with_reducible refine (id : pGt _ _ → pGt _ _) ?_); first | refine pGt_int ?_ | fail) | ((with_reducible refine (id : pLe _ _ → pLe _ _) ?_); first | refine pLe_int ?_ | fail) | ((with_reducible refine (id : pGe _ _ → pGe _ _) ?_); first | refine pGe_int ?_ | fail) | ((with_reducible refine (id : pMul _ _ → pMul _ _) ?_); first | refine ⟨.inl ⟨by omega, by omega⟩, ?_⟩ | refine ⟨.inr ⟨by omega, by omega⟩, ?_⟩ | fail) | ((with_reducible refine (id : pMod _ _ → pMod _ _) ?_); first | refine ⟨_, _, rfl, by omega, ?_⟩ | fail) | ((with_reducible refine (id : pDiv _ _ → pDiv _ _) ?_); first | refine ⟨_, _, rfl, ⟨by omega, by omega⟩, ?_⟩ | fail) | ((with_reducible refine (id : pPow _ _ → pPow _ _) ?_); first | refine ⟨_, _, rfl, ⟨by decide, by decide, by decide⟩, ?_⟩ | fail) | ((with_reducible refine (id : pSub _ _ → pSub _ _) ?_); first | refine ⟨_, _, rfl, ?_⟩ | fail) | ((with_reducible refine (id : pIx _ _ → pIx _ _) ?_); first | refine ⟨_, rfl, ?_⟩ | refine ⟨_, dSk_at (by assumption), ?_⟩ | refine ⟨_, nums_at (by omega), ?_⟩ | refine ⟨_, nats_at (by omega), ?_⟩ | refine ⟨_, nums_first (by omega), ?_⟩ | refine ⟨_, nums_last (by omega), ?_⟩ | fail) | ((with_reducible refine (id : φMake _ _ _ → φMake _ _ _) ?_); first | refine ⟨_, rfl, by omega, ?_⟩ | fail) | ((with_reducible refine (id : pMax _ _ → pMax _ _) ?_); first | refine pMax2 ?_ | fail) | ((with_reducible refine (id : pMin _ _ → pMin _ _) ?_); first | refine pMin2 ?_ | fail) | ((with_reducible refine (id : pSort2 _ _ → pSort2 _ _) ?_); first | refine pSort2_l ?_ | refine pSort2_t ?_ | fail) | ((with_reducible refine (id : pRepr _ _ → pRepr _ _) ?_); first | refine Nice.rp (by assumption) (by decide) (by decide) ?_ | refine (Nice.int (by omega) (by omega)).rp (by decide) (by decide) ?_ | fail) | ((with_reducible refine (id : pSl _ _ → pSl _ _) ?_); first | refine ⟨_, _, rfl, rfl, ?_⟩ | fail) | ((with_reducible refine (id : pIn _ _ → pIn _ _) ?_); first | refine pIn_row (by first | exact .inl rfl | exact .inr rfl | assumption) ?_ | fail) | ((with_reducible refine (id : pNin _ _ → pNin _ _) ?_); first | refine pNin_row (by first | exact .inl rfl | exact .inr rfl | assumption) ?_ | fail) | ((with_reducible refine (id : φDraw _ _ _ → φDraw _ _ _) ?_); first | refine ⟨_, rfl, by first | decide | omega, by first | decide | omega, fun i hi => ?_⟩ | fail) | (refine ⟨(rfl : ltB _ _), ?_⟩; try dsimp only [upds, putBack, backSl, wipeS, keepS, List.set_cons_zero, List.set_cons_succ, getD_s, getD_z, List.cons_append, List.nil_append, List.replicate, List.reduceReplicate, R.sl]) | ((with_reducible refine (id : @ite _ _ _ _ _ → @ite _ _ _ _ _) ?_); first | refine iteT rfl ?_ | refine iteF rfl ?_ | refine iteB (fun hh => ?_) (fun hh => ?_) | refine iteb (fun hh => ?_) (fun hh => ?_) | fail) | ((fail_if_success (with_reducible refine (id : pEq _ _ → pEq _ _) ?_)); (fail_if_success (with_reducible refine (id : pNe _ _ → pNe _ _) ?_)); (fail_if_success (with_reducible refine (id : pLt _ _ → pLt _ _) ?_)); (fail_if_success (with_reducible refine (id : pGt _ _ → pGt _ _) ?_)); (fail_if_success (with_reducible refine (id : pLe _ _ → pLe _ _) ?_)); (fail_if_success (with_reducible refine (id : pGe _ _ → pGe _ _) ?_)); (fail_if_success (with_reducible refine (id : pMul _ _ → pMul _ _) ?_)); (fail_if_success (with_reducible refine (id : pMod _ _ → pMod _ _) ?_)); (fail_if_success (with_reducible refine (id : pDiv _ _ → pDiv _ _) ?_)); (fail_if_success (with_reducible refine (id : pPow _ _ → pPow _ _) ?_)); (fail_if_success (with_reducible refine (id : pSub _ _ → pSub _ _) ?_)); (fail_if_success (with_reducible refine (id : pIx _ _ → pIx _ _) ?_)); (fail_if_success (with_reducible refine (id : φMake _ _ _ → φMake _ _ _) ?_)); (fail_if_success (with_reducible refine (id : pMax _ _ → pMax _ _) ?_)); (fail_if_success (with_reducible refine (id : pMin _ _ → pMin _ _) ?_)); (fail_if_success (with_reducible refine (id : pSort2 _ _ → pSort2 _ _) ?_)); (fail_if_success (with_reducible refine (id : pRepr _ _ → pRepr _ _) ?_)); (fail_if_success (with_reducible refine (id : pSl _ _ → pSl _ _) ?_)); (fail_if_success (with_reducible refine (id : pIn _ _ → pIn _ _) ?_)); (fail_if_success (with_reducible refine (id : pNin _ _ → pNin _ _) ?_)); (fail_if_success (with_reducible refine (id : φDraw _ _ _ → φDraw _ _ _) ?_)); first | refine ⟨rfl, ?_⟩ | refine ⟨_, rfl, ?_⟩ | refine ⟨_, rfl, rfl, ?_⟩ | refine ⟨_, _, rfl, ?_⟩ | refine ⟨_, _, rfl, rfl, ?_⟩ | refine ⟨⟨_, _, rfl⟩, ?_⟩ | refine ⟨_, _, _, rfl, rfl, ?_⟩ | refine ⟨_, _, _, rfl, ?_⟩ | refine And.intro (by omega) ?_ | refine And.intro ⟨by omega, by omega⟩ ?_ | refine And.intro (by assumption) ?_ | refine And.intro (sz (by first | omega | (simp only [List.length_append, List.length_cons, List.length_nil, List.length_map, dInts_len, List.length_set]; omega))) ?_ | refine And.intro (szl (by first | omega | (simp only [List.length_append, List.length_cons, List.length_nil, List.length_map, dInts_len, List.length_set]; omega))) ?_ | fail) | fail))
  refine comp_sub trivial (fun d hd K k0 k => ?_) fun acc ha => ?_
  · obtain ⟨c, hc, rfl⟩ := List.mem_map.mp hd
    (repeat' ((fail_if_success (with_reducible refine ForI.stop ?_)); (fail_if_success (with_reducible refine CompI.stop ?_)); (fail_if_success (with_reducible refine whileI.stop ?_)); first | ((with_reducible refine (id : pEq _ _ → pEq _ _) ?_); first | refine pEq_strT ?_ | refine pEq_int ?_ | refine pEq_str ?_ | refine pEq_nils ?_ | refine pEq_nilt ?_ | fail) | ((with_reducible refine (id : pNe _ _ → pNe _ _) ?_); first | refine pNe_strF ?_ | refine pNe_int ?_ | refine pNe_str ?_ | refine pNe_nils ?_ | refine pNe_nilt ?_ | fail) | ((with_reducible refine (id : pLt _ _ → pLt _ _) ?_); first | refine pLt_int ?_ | fail) | ((with_reducible refine (id : pGt _ _ → pGt _ _) ?_); first | refine pGt_int ?_ | fail) | ((with_reducible refine (id : pLe _ _ → pLe _ _) ?_); first | refine pLe_int ?_ | fail) | ((with_reducible refine (id : pGe _ _ → pGe _ _) ?_); first | refine pGe_int ?_ | fail) | ((with_reducible refine (id : pMul _ _ → pMul _ _) ?_); first | refine ⟨.inl ⟨by omega, by omega⟩, ?_⟩ | refine ⟨.inr ⟨by omega, by omega⟩, ?_⟩ | fail) | ((with_reducible refine (id : pMod _ _ → pMod _ _) ?_); first | refine ⟨_, _, rfl, by omega, ?_⟩ | fail) | ((with_reducible refine (id : pDiv _ _ → pDiv _ _) ?_); first | refine ⟨_, _, rfl, ⟨by omega, by omega⟩, ?_⟩ | fail) | ((with_reducible refine (id : pPow _ _ → pPow _ _) ?_); first | refine ⟨_, _, rfl, ⟨by decide, by decide, by decide⟩, ?_⟩ | fail) | ((with_reducible refine (id : pSub _ _ → pSub _ _) ?_); first | refine ⟨_, _, rfl, ?_⟩ | fail) | ((with_reducible refine (id : pIx _ _ → pIx _ _) ?_); first | refine ⟨_, rfl, ?_⟩ | refine ⟨_, dSk_at (by assumption), ?_⟩ | refine ⟨_, nums_at (by omega), ?_⟩ | refine ⟨_, nats_at (by omega), ?_⟩ | refine ⟨_, nums_first (by omega), ?_⟩ | refine ⟨_, nums_last (by omega), ?_⟩ | fail) | ((with_reducible refine (id : φMake _ _ _ → φMake _ _ _) ?_); first | refine ⟨_, rfl, by omega, ?_⟩ | fail) | ((with_reducible refine (id : pMax _ _ → pMax _ _) ?_); first | refine pMax2 ?_ | fail) | ((with_reducible refine (id : pMin _ _ → pMin _ _) ?_); first | refine pMin2 ?_ | fail) | ((with_reducible refine (id : pSort2 _ _ → pSort2 _ _) ?_); first | refine pSort2_l ?_ | refine pSort2_t ?_ | fail) | ((with_reducible refine (id : pRepr _ _ → pRepr _ _) ?_); first | refine Nice.rp (by assumption) (by decide) (by decide) ?_ | refine (Nice.int (by omega) (by omega)).rp (by decide) (by decide) ?_ | fail) | ((with_reducible refine (id : pSl _ _ → pSl _ _) ?_); first | refine ⟨_, _, rfl, rfl, ?_⟩ | fail) | ((with_reducible refine (id : pIn _ _ → pIn _ _) ?_); first | refine pIn_row (by first | exact .inl rfl | exact .inr rfl | assumption) ?_ | fail) | ((with_reducible refine (id : pNin _ _ → pNin _ _) ?_); first | refine pNin_row (by first | exact .inl rfl | exact .inr rfl | assumption) ?_ | fail) | ((with_reducible refine (id : φDraw _ _ _ → φDraw _ _ _) ?_); first | refine ⟨_, rfl, by first | decide | omega, by first | decide | omega, fun i hi => ?_⟩ | fail) | (refine ⟨(rfl : ltB _ _), ?_⟩; try dsimp only [upds, putBack, backSl, wipeS, keepS, List.set_cons_zero, List.set_cons_succ, getD_s, getD_z, List.cons_append, List.nil_append, List.replicate, List.reduceReplicate, R.sl]) | ((with_reducible refine (id : @ite _ _ _ _ _ → @ite _ _ _ _ _) ?_); first | refine iteT rfl ?_ | refine iteF rfl ?_ | refine iteB (fun hh => ?_) (fun hh => ?_) | refine iteb (fun hh => ?_) (fun hh => ?_) | fail) | ((fail_if_success (with_reducible refine (id : pEq _ _ → pEq _ _) ?_)); (fail_if_success (with_reducible refine (id : pNe _ _ → pNe _ _) ?_)); (fail_if_success (with_reducible refine (id : pLt _ _ → pLt _ _) ?_)); (fail_if_success (with_reducible refine (id : pGt _ _ → pGt _ _) ?_)); (fail_if_success (with_reducible refine (id : pLe _ _ → pLe _ _) ?_)); (fail_if_success (with_reducible refine (id : pGe _ _ → pGe _ _) ?_)); (fail_if_success (with_reducible refine (id : pMul _ _ → pMul _ _) ?_)); (fail_if_success (with_reducible refine (id : pMod _ _ → pMod _ _) ?_)); (fail_if_success (with_reducible refine (id : pDiv _ _ → pDiv _ _) ?_)); (fail_if_success (with_reducible refine (id : pPow _ _ → pPow _ _) ?_)); (fail_if_success (with_reducible refine (id : pSub _ _ → pSub _ _) ?_)); (fail_if_success (with_reducible refine (id : pIx _ _ → pIx _ _) ?_)); (fail_if_success (with_reducible refine (id : φMake _ _ _ → φMake _ _ _) ?_)); (fail_if_success (with_reducible refine (id : pMax _ _ → pMax _ _) ?_)); (fail_if_success (with_reducible refine (id : pMin _ _ → pMin _ _) ?_)); (fail_if_success (with_reducible refine (id : pSort2 _ _ → pSort2 _ _) ?_)); (fail_if_success (with_reducible refine (id : pRepr _ _ → pRepr _ _) ?_)); (fail_if_success (with_reducible refine (id : pSl _ _ → pSl _ _) ?_)); (fail_if_success (with_reducible refine (id : pIn _ _ → pIn _ _) ?_)); (fail_if_success (with_reducible refine (id : pNin _ _ → pNin _ _) ?_)); (fail_if_success (with_reducible refine (id : φDraw _ _ _ → φDraw _ _ _) ?_)); first | refine ⟨rfl, ?_⟩ | refine ⟨_, rfl, ?_⟩ | refine ⟨_, rfl, rfl, ?_⟩ | refine ⟨_, _, rfl, ?_⟩ | refine ⟨_, _, rfl, rfl, ?_⟩ | refine ⟨⟨_, _, rfl⟩, ?_⟩ | refine ⟨_, _, _, rfl, rfl, ?_⟩ | refine ⟨_, _, _, rfl, ?_⟩ | refine And.intro (by omega) ?_ | refine And.intro ⟨by omega, by omega⟩ ?_ | refine And.intro (by assumption) ?_ | refine And.intro (sz (by first | omega | (simp only [List.length_append, List.length_cons, List.length_nil, List.length_map, dInts_len, List.length_set]; omega))) ?_ | refine And.intro (szl (by first | omega | (simp only [List.length_append, List.length_cons, List.length_nil, List.length_map, dInts_len, List.length_set]; omega))) ?_ | fail) | fail))
    · exact k
    · exact k0
  · obtain ⟨ms, hm, rfl⟩ := sub_ints ha
    (repeat' ((fail_if_success (with_reducible refine ForI.stop ?_)); (fail_if_success (with_reducible refine CompI.stop ?_)); (fail_if_success (with_reducible refine whileI.stop ?_)); first | ((with_reducible refine (id : pEq _ _ → pEq _ _) ?_); first | refine pEq_strT ?_ | refine pEq_int ?_ | refine pEq_str ?_ | refine pEq_nils ?_ | refine pEq_nilt ?_ | fail) | ((with_reducible refine (id : pNe _ _ → pNe _ _) ?_); first | refine pNe_strF ?_ | refine pNe_int ?_ | refine pNe_str ?_ | refine pNe_nils ?_ | refine pNe_nilt ?_ | fail) | ((with_reducible refine (id : pLt _ _ → pLt _ _) ?_); first | refine pLt_int ?_ | fail) | ((with_reducible refine (id : pGt _ _ → pGt _ _) ?_); first | refine pGt_int ?_ | fail) | ((with_reducible refine (id : pLe _ _ → pLe _ _) ?_); first | refine pLe_int ?_ | fail) | ((with_reducible refine (id : pGe _ _ → pGe _ _) ?_); first | refine pGe_int ?_ | fail) | ((with_reducible refine (id : pMul _ _ → pMul _ _) ?_); first | refine ⟨.inl ⟨by omega, by omega⟩, ?_⟩ | refine ⟨.inr ⟨by omega, by omega⟩, ?_⟩ | fail) | ((with_reducible refine (id : pMod _ _ → pMod _ _) ?_); first | refine ⟨_, _, rfl, by omega, ?_⟩ | fail) | ((with_reducible refine (id : pDiv _ _ → pDiv _ _) ?_); first | refine ⟨_, _, rfl, ⟨by omega, by omega⟩, ?_⟩ | fail) | ((with_reducible refine (id : pPow _ _ → pPow _ _) ?_); first | refine ⟨_, _, rfl, ⟨by decide, by decide, by decide⟩, ?_⟩ | fail) | ((with_reducible refine (id : pSub _ _ → pSub _ _) ?_); first | refine ⟨_, _, rfl, ?_⟩ | fail) | ((with_reducible refine (id : pIx _ _ → pIx _ _) ?_); first | refine ⟨_, rfl, ?_⟩ | refine ⟨_, dSk_at (by assumption), ?_⟩ | refine ⟨_, nums_at (by omega), ?_⟩ | refine ⟨_, nats_at (by omega), ?_⟩ | refine ⟨_, nums_first (by omega), ?_⟩ | refine ⟨_, nums_last (by omega), ?_⟩ | fail) | ((with_reducible refine (id : φMake _ _ _ → φMake _ _ _) ?_); first | refine ⟨_, rfl, by omega, ?_⟩ | fail) | ((with_reducible refine (id : pMax _ _ → pMax _ _) ?_); first | refine pMax2 ?_ | fail) | ((with_reducible refine (id : pMin _ _ → pMin _ _) ?_); first | refine pMin2 ?_ | fail) | ((with_reducible refine (id : pSort2 _ _ → pSort2 _ _) ?_); first | refine pSort2_l ?_ | refine pSort2_t ?_ | fail) | ((with_reducible refine (id : pRepr _ _ → pRepr _ _) ?_); first | refine Nice.rp (by assumption) (by decide) (by decide) ?_ | refine (Nice.int (by omega) (by omega)).rp (by decide) (by decide) ?_ | fail) | ((with_reducible refine (id : pSl _ _ → pSl _ _) ?_); first | refine ⟨_, _, rfl, rfl, ?_⟩ | fail) | ((with_reducible refine (id : pIn _ _ → pIn _ _) ?_); first | refine pIn_row (by first | exact .inl rfl | exact .inr rfl | assumption) ?_ | fail) | ((with_reducible refine (id : pNin _ _ → pNin _ _) ?_); first | refine pNin_row (by first | exact .inl rfl | exact .inr rfl | assumption) ?_ | fail) | ((with_reducible refine (id : φDraw _ _ _ → φDraw _ _ _) ?_); first | refine ⟨_, rfl, by first | decide | omega, by first | decide | omega, fun i hi => ?_⟩ | fail) | (refine ⟨(rfl : ltB _ _), ?_⟩; try dsimp only [upds, putBack, backSl, wipeS, keepS, List.set_cons_zero, List.set_cons_succ, getD_s, getD_z, List.cons_append, List.nil_append, List.replicate, List.reduceReplicate, R.sl]) | ((with_reducible refine (id : @ite _ _ _ _ _ → @ite _ _ _ _ _) ?_); first | refine iteT rfl ?_ | refine iteF rfl ?_ | refine iteB (fun hh => ?_) (fun hh => ?_) | refine iteb (fun hh => ?_) (fun hh => ?_) | fail) | ((fail_if_success (with_reducible refine (id : pEq _ _ → pEq _ _) ?_)); (fail_if_success (with_reducible refine (id : pNe _ _ → pNe _ _) ?_)); (fail_if_success (with_reducible refine (id : pLt _ _ → pLt _ _) ?_)); (fail_if_success (with_reducible refine (id : pGt _ _ → pGt _ _) ?_)); (fail_if_success (with_reducible refine (id : pLe _ _ → pLe _ _) ?_)); (fail_if_success (with_reducible refine (id : pGe _ _ → pGe _ _) ?_)); (fail_if_success (with_reducible refine (id : pMul _ _ → pMul _ _) ?_)); (fail_if_success (with_reducible refine (id : pMod _ _ → pMod _ _) ?_)); (fail_if_success (with_reducible refine (id : pDiv _ _ → pDiv _ _) ?_)); (fail_if_success (with_reducible refine (id : pPow _ _ → pPow _ _) ?_)); (fail_if_success (with_reducible refine (id : pSub _ _ → pSub _ _) ?_)); (fail_if_success (with_reducible refine (id : pIx _ _ → pIx _ _) ?_)); (fail_if_success (with_reducible refine (id : φMake _ _ _ → φMake _ _ _) ?_)); (fail_if_success (with_reducible refine (id : pMax _ _ → pMax _ _) ?_)); (fail_if_success (with_reducible refine (id : pMin _ _ → pMin _ _) ?_)); (fail_if_success (with_reducible refine (id : pSort2 _ _ → pSort2 _ _) ?_)); (fail_if_success (with_reducible refine (id : pRepr _ _ → pRepr _ _) ?_)); (fail_if_success (with_reducible refine (id : pSl _ _ → pSl _ _) ?_)); (fail_if_success (with_reducible refine (id : pIn _ _ → pIn _ _) ?_)); (fail_if_success (with_reducible refine (id : pNin _ _ → pNin _ _) ?_)); (fail_if_success (with_reducible refine (id : φDraw _ _ _ → φDraw _ _ _) ?_)); first | refine ⟨rfl, ?_⟩ | refine ⟨_, rfl, ?_⟩ | refine ⟨_, rfl, rfl, ?_⟩ | refine ⟨_, _, rfl, ?_⟩ | refine ⟨_, _, rfl, rfl, ?_⟩ | refine ⟨⟨_, _, rfl⟩, ?_⟩ | refine ⟨_, _, _, rfl, rfl, ?_⟩ | refine ⟨_, _, _, rfl, ?_⟩ | refine And.intro (by omega) ?_ | refine And.intro ⟨by omega, by omega⟩ ?_ | refine And.intro (by assumption) ?_ | refine And.intro (sz (by first | omega | (simp only [List.length_append, List.length_cons, List.length_nil, List.length_map, dInts_len, List.length_set]; omega))) ?_ | refine And.intro (szl (by first | omega | (simp only [List.length_append, List.length_cons, List.length_nil, List.length_map, dInts_len, List.length_set]; omega))) ?_ | fail) | fail))
    exact q ms hm hm.length_le

theorem d__law_some {P : Program} {w : World} {K : PySem.W.Frag} {mg : Str → Option Value} {base : Heap} {T : Xd} (z : Txt mg) (F__law_draw : Fd P w K mg base (Gs K) T 1 2 "_law_draw" ["stock", "size"] [] φ__law_draw) (W : Wr K mg "_law_some" s__law_some) : Fd P w K mg base (Gs K) T 2 2 "_law_some" ["stock", "row"] [] φ__law_some :=
  Fd.of W sc__law_some (fun _ _ _ _ _ _ us hl => match us, hl with | [_, _], _ => rfl) bk0 rfl rfl rfl (fun f cdv A outer s H E pl => b__law_some z F__law_draw f cdv A outer s H E pl) c__law_some φ__law_some_mono
def φ__law_program : Spc := fun as Q _ => ∃ (sk : Sk) (g : Bool), as = [.pot true, .sh (dSk sk), .sh (.bool g)] ∧ SkOk sk ∧ ∀ ls rs : List Int, PrOk sk ls rs → Q (.sh (dProg sk ls rs)) as
theorem φ__law_program_mono : MonoS φ__law_program := fun as Q Q' E E' h _ ⟨sk, g, e, e2, q⟩ => ⟨sk, g, e, e2, fun ls rs h1 => h _ _ (q ls rs h1)⟩
--go: ⟨_, _, rfl, by assumption, fun ls rs hp => ?_⟩

def w__law_program_2 : WS := seqS (retS (tupE (seqA [ofE (varE 1), ofE (varE 3), ofE (primW pTup (seqA [vwG 5]))]))) nxS
def w__law_program_1f2 : WS := seqS (dropS (mthE 5 (seqA [ofE (primW pMin (seqA [ofE (primW pMax (seqA [ofE (conE (.int 0)), vwG 8])), ofE (primW pPow (seqA [ofE (conE (.int 10)), ofE (conE (.int 9))]))]))]) mApp)) nxS
def w__law_program_1f1 : WS := seqS (asgS 8 (callW φ__law_pick (seqA [vwG 0, ofE (lstE (seqA [ofE (varE 7), ofE (varE 7), ofE (primW pSub (seqA [vwG 7, ofE (conE (.int 1))])), ofE (primW pSub (seqA [vwG 7, ofE (conE (.int 1))])), ofE (primW pSub (seqA [vwG 7, ofE (conE (.int 2))])), ofE (primW pAdd (seqA [vwG 7, ofE (conE (.int 1))])), ofE (callW φ__law_draw (seqA [vwG 0, ofE (conE (.int 20))])), ofE (primW pPow (seqA [ofE (conE (.int 10)), ofE (conE (.int 9))]))]))]))) w__law_program_1f2
def w__law_program_1f0 : WS := seqS (asgS 7 (callW φ__law_way (seqA [ofE (varE 1), ofE (varE 3), ofE (callW φ__law_some (seqA [vwG 0, ofE (varE 4)])), ofE (varE 6)]))) w__law_program_1f1
def w__law_program_1 : WS := seqS (forI (seqI (ofE (varE 4))) (nameT 6) (w__law_program_1f0)) w__law_program_2
def w__law_program : WS := seqS (parS3 3 4 5 (callW φ__law_lengths (seqA [vwG 0, ofE (varE 1), ofE (varE 2)])) (callW φ__law_jumps (seqA [ofE (varE 1)])) (lstE (seqA []))) w__law_program_1
theorem b__law_program {P : Program} {w : World} {K : PySem.W.Frag} {mg : Str → Option Value} {base : Heap} {G : Wd} {T : Xd} (z : Txt mg) (F__law_lengths : Fd P w K mg base G T 3 3 "_law_lengths" ["stock", "skeleton", "is_great"] [] φ__law_lengths) (F__law_jumps : Fd P w K mg base G T 1 1 "_law_jumps" ["skeleton"] [] φ__law_jumps) (F__law_way : Fd P w K mg base G T 2 4 "_law_way" ["skeleton", "lengths", "choice", "jump"] [] φ__law_way) (F__law_pick : Fd P w K mg base G T 2 2 "_law_pick" ["stock", "row"] [] φ__law_pick) (F__law_some : Fd P w K mg base G T 2 2 "_law_some" ["stock", "row"] [] φ__law_some) (F__law_draw : Fd P w K mg base G T 1 2 "_law_draw" ["stock", "size"] [] φ__law_draw) (f : Addr) (cdv : Value) (A : Around) (outer : List Env) (s : Shared) (H : Hp) (E : XK) (pl : Plc G 3 (fun cls d _ H => E cls d H) (cxD P w K mg base ["stock", "skeleton", "is_great", "lengths", "jumps", "found", "jump", "way", "reach"] "_law_program" (defScope s__law_program) f cdv A outer s H E)) :
    Bs G T (fun cls d _ H => E cls d H) (cxD P w K mg base ["stock", "skeleton", "is_great", "lengths", "jumps", "found", "jump", "way", "reach"] "_law_program" (defScope s__law_program) f cdv A outer s H E) (defBody s__law_program) w__law_program :=
  (bC (sPar3 3 4 5 pl sc__law_program.nd (eF pl F__law_lengths (ha := (aC (vG 0) (aC (vE 1).g (aC (vE 2).g aN))))) (eF pl F__law_jumps (ha := (aC (vE 1).g aN))) (eLst aN)) (bC (sFor pl (iSeqI pl (vE 4).g) (gN 6 sc__law_program.nd) (bC (sAsg 7 sc__law_program.nd (eF pl F__law_way (ha := (aC (vE 1).g (aC (vE 3).g (aC (eF pl F__law_some (ha := (aC (vG 0) (aC (vE 4).g aN)))).g (aC (vE 6).g aN))))))) (bC (sAsg 8 sc__law_program.nd (eF pl F__law_pick (ha := (aC (vG 0) (aC (eLst (aC (vE 7).g (aC (vE 7).g (aC (bSub (vG 7) kI.g).g (aC (bSub (vG 7) kI.g).g (aC (bSub (vG 7) kI.g).g (aC (bAdd pl (vG 7) kI.g).g (aC (eF pl F__law_draw (ha := (aC (vG 0) (aC kI.g aN)))).g (aC (bPow kI.g kI.g).g aN))))))))).g aN))))) (bC (sExpr (mAppend 5 pl (aC (bMin pl z.min (aC (bMax pl z.max (aC kI.g (aC (vG 8) aN))).g (aC (bPow kI.g kI.g).g aN))).g aN))) bN)))) (bC (sRet (eTup (aC (vE 1).g (aC (vE 3).g (aC (bTup pl z.tuple (aC (vG 5) aN)).g aN))))) bN)))
theorem c__law_program (as : List Sl) (Q : R → List Sl → Prop) (E : Exc → List Sl → Prop) (h : φ__law_program as Q E) : body 6 w__law_program as Q E := by
  obtain ⟨sk, g, rfl, hs, q⟩ := h
  have jl := jumps24 hs
  have e9 : (10 : Int) ^ (Int.toNat 9) = 1000000000 := by decide
  (repeat' ((fail_if_success (with_reducible refine ForI.stop ?_)); (fail_if_success (with_reducible refine CompI.stop ?_)); (fail_if_success (with_reducible refine whileI.stop ?_)); first | ((with_reducible refine (id : φ__law_some _ _ _ → φ__law_some _ _ _) ?_); first | refine ⟨_, rfl, by first | omega | exact Nat.le_trans (jumps24 (by assumption)) (by decide), fun ch hc hcl => ?_⟩ | fail) | ((with_reducible refine (id : φ__law_pick _ _ _ → φ__law_pick _ _ _) ?_); first | refine ⟨_, rfl, by simp, by simp, fun d hd => ?_⟩ | fail) | ((with_reducible refine (id : φ__law_way _ _ _ → φ__law_way _ _ _) ?_); first | refine φ__law_way_go (by assumption) (by assumption) (by first | exact .inl rfl | exact .inr rfl | assumption) (by omega) (by omega) ?_ | fail) | ((with_reducible refine (id : φ__law_jumps _ _ _ → φ__law_jumps _ _ _) ?_); first | refine ⟨_, rfl, by have := (‹SkOk _›).1; omega, ?_⟩ | fail) | ((with_reducible refine (id : φ__law_lengths _ _ _ → φ__law_lengths _ _ _) ?_); first | refine ⟨_, _, rfl, by have := (‹SkOk _›).1; omega, fun ls hl hb => ?_⟩ | fail) | ((with_reducible refine (id : pEq _ _ → pEq _ _) ?_); first | refine pEq_strT ?_ | refine pEq_int ?_ | refine pEq_str ?_ | refine pEq_nils ?_ | refine pEq_nilt ?_ | fail) | ((with_reducible refine (id : pNe _ _ → pNe _ _) ?_); first | refine pNe_strF ?_ | refine pNe_int ?_ | refine pNe_str ?_ | refine pNe_nils ?_ | refine pNe_nilt ?_ | fail) | ((with_reducible refine (id : pLt _ _ → pLt _ _) ?_); first | refine pLt_int ?_ | fail) | ((with_reducible refine (id : pGt _ _ → pGt _ _) ?_); first | refine pGt_int ?_ | fail) | ((with_reducible refine (id : pLe _ _ → pLe _ _) ?_); first | refine pLe_int ?_ | fail) | ((with_reducible refine (id : pGe _ _ → pGe _ _) ?_); first | refine pGe_int ?_ | fail) | ((with_reducible refine (id : pMul _ _ → pMul _ _) ?_); first | refine ⟨.inl ⟨by omega, by omega⟩, ?_⟩ | refine ⟨.inr ⟨by omega, by omega⟩, ?_⟩ | fail) | ((with_reducible refine (id : pMod _ _ → pMod _ _) ?_); first | refine ⟨_, _, rfl, by omega, ?_⟩ | fail) | ((with_reducible refine (id : pDiv _ _ → pDiv _ _) ?_); first | refine ⟨_, _, rfl, ⟨by omega, by omega⟩, ?_⟩ | fail) | ((with_reducible refine (id : pPow _ _ → pPow _ _) ?_); first | refine ⟨_, _, rfl, ⟨by decide, by decide, by decide⟩, ?_⟩ | fail) | ((with_reducible refine (id : pSub _ _ → pSub _ _) ?_); first | refine ⟨_, _, rfl, ?_⟩ | fail) | ((with_reducible refine (id : pIx _ _ → pIx _ _) ?_); first | refine ⟨_, rfl, ?_⟩ | refine ⟨_, dSk_at (by assumption), ?_⟩ | refine ⟨_, nums_at (by omega), ?_⟩ | refine ⟨_, nats_at (by omega), ?_⟩ | refine ⟨_, nums_first (by omega), ?_⟩ | refine ⟨_, nums_last (by omega), ?_⟩ | fail) | ((with_reducible refine (id : φMake _ _ _ → φMake _ _ _) ?_); first | refine ⟨_, rfl, by omega, ?_⟩ | fail) | ((with_reducible refine (id : pMax _ _ → pMax _ _) ?_); first | refine pMax2 ?_ | fail) | ((with_reducible refine (id : pMin _ _ → pMin _ _) ?_); first | refine pMin2 ?_ | fail) | ((with_reducible refine (id : pSort2 _ _ → pSort2 _ _) ?_); first | refine pSort2_l ?_ | refine pSort2_t ?_ | fail) | ((with_reducible refine (id : pRepr _ _ → pRepr _ _) ?_); first | refine Nice.rp (by assumption) (by decide) (by decide) ?_ | refine (Nice.int (by omega) (by omega)).rp (by decide) (by decide) ?_ | fail) | ((with_reducible refine (id : pSl _ _ → pSl _ _) ?_); first | refine ⟨_, _, rfl, rfl, ?_⟩ | fail) | ((with_reducible refine (id : pIn _ _ → pIn _ _) ?_); first | refine pIn_row (by first | exact .inl rfl | exact .inr rfl | assumption) ?_ | fail) | ((with_reducible refine (id : pNin _ _ → pNin _ _) ?_); first | refine pNin_row (by first | exact .inl rfl | exact .inr rfl | assumption) ?_ | fail) | ((with_reducible refine (id : φDraw _ _ _ → φDraw _ _ _) ?_); first | refine ⟨_, rfl, by first | decide | omega, by first | decide | omega, fun i hi => ?_⟩ | fail) | (refine ⟨(rfl : ltB _ _), ?_⟩; try dsimp only [upds, putBack, backSl, wipeS, keepS, List.set_cons_zero, List.set_cons_succ, getD_s, getD_z, List.cons_append, List.nil_append, List.replicate, List.reduceReplicate, R.sl]) | ((with_reducible refine (id : @ite _ _ _ _ _ → @ite _ _ _ _ _) ?_); first | refine iteT rfl ?_ | refine iteF rfl ?_ | refine iteB (fun hh => ?_) (fun hh => ?_) | refine iteb (fun hh => ?_) (fun hh => ?_) | fail) | ((fail_if_success (with_reducible refine (id : pEq _ _ → pEq _ _) ?_)); (fail_if_success (with_reducible refine (id : pNe _ _ → pNe _ _) ?_)); (fail_if_success (with_reducible refine (id : pLt _ _ → pLt _ _) ?_)); (fail_if_success (with_reducible refine (id : pGt _ _ → pGt _ _) ?_)); (fail_if_success (with_reducible refine (id : pLe _ _ → pLe _ _) ?_)); (fail_if_success (with_reducible refine (id : pGe _ _ → pGe _ _) ?_)); (fail_if_success (with_reducible refine (id : pMul _ _ → pMul _ _) ?_)); (fail_if_success (with_reducible refine (id : pMod _ _ → pMod _ _) ?_)); (fail_if_success (with_reducible refine (id : pDiv _ _ → pDiv _ _) ?_)); (fail_if_success (with_reducible refine (id : pPow _ _ → pPow _ _) ?_)); (fail_if_success (with_reducible refine (id : pSub _ _ → pSub _ _) ?_)); (fail_if_success (with_reducible refine (id : pIx _ _ → pIx _ _) ?_)); (fail_if_success (with_reducible refine (id : φMake _ _ _ → φMake _ _ _) ?_)); (fail_if_success (with_reducible refine (id : pMax _ _ → pMax _ _) ?_)); (fail_if_success (with_reducible refine (id : pMin _ _ → pMin _ _) ?_)); (fail_if_success (with_reducible refine (id : pSort2 _ _ → pSort2 _ _) ?_)); (fail_if_success (with_reducible refine (id : pRepr _ _ → pRepr _ _) ?_)); (fail_if_success (with_reducible refine (id : pSl _ _ → pSl _ _) ?_)); (fail_if_success (with_reducible refine (id : pIn _ _ → pIn _ _) ?_)); (fail_if_success (with_reducible refine (id : pNin _ _ → pNin _ _) ?_)); (fail_if_success (with_reducible refine (id : φDraw _ _ _ → φDraw _ _ _) ?_)); (fail_if_success (with_reducible refine (id : φ__law_lengths _ _ _ → φ__law_lengths _ _ _) ?_)); (fail_if_success (with_reducible refine (id : φ__law_jumps _ _ _ → φ__law_jumps _ _ _) ?_)); (fail_if_success (with_reducible refine (id : φ__law_way _ _ _ → φ__law_way _ _ _) ?_)); (fail_if_success (with_reducible refine (id : φ__law_pick _ _ _ → φ__law_pick _ _ _) ?_)); (fail_if_success (with_reducible refine (id : φ__law_some _ _ _ → φ__law_some _ _ _) ?_)); first | refine ⟨rfl, ?_⟩ | refine ⟨_, rfl, ?_⟩ | refine ⟨_, rfl, rfl, ?_⟩ | refine ⟨_, _, rfl, ?_⟩ | refine ⟨_, _, rfl, rfl, ?_⟩ | refine ⟨⟨_, _, rfl⟩, ?_⟩ | refine ⟨_, _, _, rfl, rfl, ?_⟩ | refine ⟨_, _, _, rfl, ?_⟩ | refine And.intro (by omega) ?_ | refine And.intro ⟨by omega, by omega⟩ ?_ | refine And.intro (by assumption) ?_ | refine And.intro (sz (by first | omega | (simp only [List.length_append, List.length_cons, List.length_nil, List.length_map, dInts_len, List.length_set]; omega))) ?_ | refine And.intro (szl (by first | omega | (simp only [List.length_append, List.length_cons, List.length_nil, List.length_map, dInts_len, List.length_set]; omega))) ?_ | fail) | fail))
  refine ForI.go [5, 6, 7, 8] (fun ((acc, a, b, c) : List Int × Sl × Sl × Sl) => [.ol false (acc.map .int), a, b, c]) (fun rest s => s.1.length + rest.length = (jumpsOf 0 sk).length ∧ (∀ x ∈ s.1, 0 ≤ x ∧ x ≤ 1000000000) ∧ ∀ d ∈ rest, ∃ j : Nat, d = .int j ∧ j ∈ jumpsOf 0 sk) ([], _, _, _) (by rfl) ⟨?_, ?_, ?_⟩ ?_ ?_
  · rw [dInts_len]; simp
  · intro x hx; cases hx
  · intro d hd
    obtain ⟨j, hj, rfl⟩ := List.mem_map.mp hd
    exact ⟨j, rfl, hj⟩
  · rintro ⟨rs, ⟨b0, b1, b2⟩⟩ ⟨h1, h2, _⟩
    (repeat' ((fail_if_success (with_reducible refine ForI.stop ?_)); (fail_if_success (with_reducible refine CompI.stop ?_)); (fail_if_success (with_reducible refine whileI.stop ?_)); first | ((with_reducible refine (id : φ__law_some _ _ _ → φ__law_some _ _ _) ?_); first | refine ⟨_, rfl, by first | omega | exact Nat.le_trans (jumps24 (by assumption)) (by decide), fun ch hc hcl => ?_⟩ | fail) | ((with_reducible refine (id : φ__law_pick _ _ _ → φ__law_pick _ _ _) ?_); first | refine ⟨_, rfl, by simp, by simp, fun d hd => ?_⟩ | fail) | ((with_reducible refine (id : φ__law_way _ _ _ → φ__law_way _ _ _) ?_); first | refine φ__law_way_go (by assumption) (by assumption) (by first | exact .inl rfl | exact .inr rfl | assumption) (by omega) (by omega) ?_ | fail) | ((with_reducible refine (id : φ__law_jumps _ _ _ → φ__law_jumps _ _ _) ?_); first | refine ⟨_, rfl, by have := (‹SkOk _›).1; omega, ?_⟩ | fail) | ((with_reducible refine (id : φ__law_lengths _ _ _ → φ__law_lengths _ _ _) ?_); first | refine ⟨_, _, rfl, by have := (‹SkOk _›).1; omega, fun ls hl hb => ?_⟩ | fail) | ((with_reducible refine (id : pEq _ _ → pEq _ _) ?_); first | refine pEq_strT ?_ | refine pEq_int ?_ | refine pEq_str ?_ | refine pEq_nils ?_ | refine pEq_nilt ?_ | fail) | ((with_reducible refine (id : pNe _ _ → pNe _ _) ?_); first | refine pNe_strF ?_ | refine pNe_int ?_ | refine pNe_str ?_ | refine pNe_nils ?_ | refine pNe_nilt ?_ | fail) | ((with_reducible refine (id : pLt _ _ → pLt _ _) ?_); first | refine pLt_int ?_ | fail) | ((with_reducible refine (id : pGt _ _ → pGt _ _) ?_); first | refine pGt_int ?_ | fail) | ((with_reducible refine (id : pLe _ _ → pLe _ _) ?_); first | refine pLe_int ?_ | fail) | ((with_reducible refine (id : pGe _ _ → pGe _ _) ?_); first | refine pGe_int ?_ | fail) | ((with_reducible refine (id : pMul _ _ → pMul _ _) ?_); first | refine ⟨.inl ⟨by omega, by omega⟩, ?_⟩ | refine ⟨.inr ⟨by omega, by omega⟩, ?_⟩ | fail) | ((with_reducible refine (id : pMod _ _ → pMod _ _) ?_); first | refine ⟨_, _, rfl, by omega, ?_⟩ | fail) | ((with_reducible refine (id : pDiv _ _ → pDiv _ _) ?_); first | refine ⟨_, _, rfl, ⟨by omega, by omega⟩, ?_⟩ | fail) | ((with_reducible refine (id : pPow _ _ → pPow _ _) ?_); first | refine ⟨_, _, rfl, ⟨by decide, by decide, by decide⟩, ?_⟩ | fail) | ((with_reducible refine (id : pSub _ _ → pSub _ _) ?_); first | refine ⟨_, _, rfl, ?_⟩ | fail) | ((with_reducible refine (id : pIx _ _ → pIx _ _) ?_); first | refine ⟨_, rfl, ?_⟩ | refine ⟨_, dSk_at (by assumption), ?_⟩ | refine ⟨_, nums_at (by omega), ?_⟩ | refine ⟨_, nats_at (by omega), ?_⟩ | refine ⟨_, nums_first (by omega), ?_⟩ | refine ⟨_, nums_last (by omega), ?_⟩ | fail) | ((with_reducible refine (id : φMake _ _ _ → φMake _ _ _) ?_); first | refine ⟨_, rfl, by omega, ?_⟩ | fail) | ((with_reducible refine (id : pMax _ _ → pMax _ _) ?_); first | refine pMax2 ?_ | fail) | ((with_reducible refine (id : pMin _ _ → pMin _ _) ?_); first | refine pMin2 ?_ | fail) | ((with_reducible refine (id : pSort2 _ _ → pSort2 _ _) ?_); first | refine pSort2_l ?_ | refine pSort2_t ?_ | fail) | ((with_reducible refine (id : pRepr _ _ → pRepr _ _) ?_); first | refine Nice.rp (by assumption) (by decide) (by decide) ?_ | refine (Nice.int (by omega) (by omega)).rp (by decide) (by decide) ?_ | fail) | ((with_reducible refine (id : pSl _ _ → pSl _ _) ?_); first | refine ⟨_, _, rfl, rfl, ?_⟩ | fail) | ((with_reducible refine (id : pIn _ _ → pIn _ _) ?_); first | refine pIn_row (by first | exact .inl rfl | exact .inr rfl | assumption) ?_ | fail) | ((with_reducible refine (id : pNin _ _ → pNin _ _) ?_); first | refine pNin_row (by first | exact .inl rfl | exact .inr rfl | assumption) ?_ | fail) | ((with_reducible refine (id : φDraw _ _ _ → φDraw _ _ _) ?_); first | refine ⟨_, rfl, by first | decide | omega, by first | decide | omega, fun i hi => ?_⟩ | fail) | (refine ⟨(rfl : ltB _ _), ?_⟩; try dsimp only [upds, putBack, backSl, wipeS, keepS, List.set_cons_zero, List.set_cons_succ, getD_s, getD_z, List.cons_append, List.nil_append, List.replicate, List.reduceReplicate, R.sl]) | ((with_reducible refine (id : @ite _ _ _ _ _ → @ite _ _ _ _ _) ?_); first | refine iteT rfl ?_ | refine iteF rfl ?_ | refine iteB (fun hh => ?_) (fun hh => ?_) | refine iteb (fun hh => ?_) (fun hh => ?_) | fail) | ((fail_if_success (with_reducible refine (id : pEq _ _ → pEq _ _) ?_)); (fail_if_success (with_reducible refine (id : pNe _ _ → pNe _ _) ?_)); (fail_if_success (with_reducible refine (id : pLt _ _ → pLt _ _) ?_)); (fail_if_success (with_reducible refine (id : pGt _ _ → pGt _ _) ?_)); (fail_if_success (with_reducible refine (id : pLe _ _ → pLe _ _) ?_)); (fail_if_success (with_reducible refine (id : pGe _ _ → pGe _ _) ?_)); (fail_if_success (with_reducible refine (id : pMul _ _ → pMul _ _) ?_)); (fail_if_success (with_reducible refine (id : pMod _ _ → pMod _ _) ?_)); (fail_if_success (with_reducible refine (id : pDiv _ _ → pDiv _ _) ?_)); (fail_if_success (with_reducible refine (id : pPow _ _ → pPow _ _) ?_)); (fail_if_success (with_reducible refine (id : pSub _ _ → pSub _ _) ?_)); (fail_if_success (with_reducible refine (id : pIx _ _ → pIx _ _) ?_)); (fail_if_success (with_reducible refine (id : φMake _ _ _ → φMake _ _ _) ?_)); (fail_if_success (with_reducible refine (id : pMax _ _ → pMax _ _) ?_)); (fail_if_success (with_reducible refine (id : pMin _ _ → pMin _ _) ?_)); (fail_if_success (with_reducible refine (id : pSort2 _ _ → pSort2 _ _) ?_)); (fail_if_success (with_reducible refine (id : pRepr _ _ → pRepr _ _) ?_)); (fail_if_success (with_reducible refine (id : pSl _ _ → pSl _ _) ?_)); (fail_if_success (with_reducible refine (id : pIn _ _ → pIn _ _) ?_)); (fail_if_success (with_reducible refine (id : pNin _ _ → pNin _ _) ?_)); (fail_if_success (with_reducible refine (id : φDraw _ _ _ → φDraw _ _ _) ?_)); (fail_if_success (with_reducible refine (id : φ__law_lengths _ _ _ → φ__law_lengths _ _ _) ?_)); (fail_if_success (with_reducible refine (id : φ__law_jumps _ _ _ → φ__law_jumps _ _ _) ?_)); (fail_if_success (with_reducible refine (id : φ__law_way _ _ _ → φ__law_way _ _ _) ?_)); (fail_if_success (with_reducible refine (id : φ__law_pick _ _ _ → φ__law_pick _ _ _) ?_)); (fail_if_success (with_reducible refine (id : φ__law_some _ _ _ → φ__law_some _ _ _) ?_)); first | refine ⟨rfl, ?_⟩ | refine ⟨_, rfl, ?_⟩ | refine ⟨_, rfl, rfl, ?_⟩ | refine ⟨_, _, rfl, ?_⟩ | refine ⟨_, _, rfl, rfl, ?_⟩ | refine ⟨⟨_, _, rfl⟩, ?_⟩ | refine ⟨_, _, _, rfl, rfl, ?_⟩ | refine ⟨_, _, _, rfl, ?_⟩ | refine And.intro (by omega) ?_ | refine And.intro ⟨by omega, by omega⟩ ?_ | refine And.intro (by assumption) ?_ | refine And.intro (sz (by first | omega | (simp only [List.length_append, List.length_cons, List.length_nil, List.length_map, dInts_len, List.length_set]; omega))) ?_ | refine And.intro (szl (by first | omega | (simp only [List.length_append, List.length_cons, List.length_nil, List.length_map, dInts_len, List.length_set]; omega))) ?_ | fail) | fail))
    exact q ls rs ⟨hs, hl, hb, by simpa using h1, h2⟩
  · rintro d rest ⟨rs, ⟨b0, b1, b2⟩⟩ N ⟨h1, h2, h3⟩ hN
    obtain ⟨j, rfl, hj⟩ := h3 d (by simp)
    obtain ⟨g, b, l, hj1⟩ := jump_at hj
    rw [List.length_cons] at h1
    (repeat' ((fail_if_success (with_reducible refine ForI.stop ?_)); (fail_if_success (with_reducible refine CompI.stop ?_)); (fail_if_success (with_reducible refine whileI.stop ?_)); first | ((with_reducible refine (id : φ__law_some _ _ _ → φ__law_some _ _ _) ?_); first | refine ⟨_, rfl, by first | omega | exact Nat.le_trans (jumps24 (by assumption)) (by decide), fun ch hc hcl => ?_⟩ | fail) | ((with_reducible refine (id : φ__law_pick _ _ _ → φ__law_pick _ _ _) ?_); first | refine ⟨_, rfl, by simp, by simp, fun d hd => ?_⟩ | fail) | ((with_reducible refine (id : φ__law_way _ _ _ → φ__law_way _ _ _) ?_); first | refine φ__law_way_go (by assumption) (by assumption) (by first | exact .inl rfl | exact .inr rfl | assumption) (by omega) (by omega) ?_ | fail) | ((with_reducible refine (id : φ__law_jumps _ _ _ → φ__law_jumps _ _ _) ?_); first | refine ⟨_, rfl, by have := (‹SkOk _›).1; omega, ?_⟩ | fail) | ((with_reducible refine (id : φ__law_lengths _ _ _ → φ__law_lengths _ _ _) ?_); first | refine ⟨_, _, rfl, by have := (‹SkOk _›).1; omega, fun ls hl hb => ?_⟩ | fail) | ((with_reducible refine (id : pEq _ _ → pEq _ _) ?_); first | refine pEq_strT ?_ | refine pEq_int ?_ | refine pEq_str ?_ | refine pEq_nils ?_ | refine pEq_nilt ?_ | fail) | ((with_reducible refine (id : pNe _ _ → pNe _ _) ?_); first | refine pNe_strF ?_ | refine pNe_int ?_ | refine pNe_str ?_ | refine pNe_nils ?_ | refine pNe_nilt ?_ | fail) | ((with_reducible refine (id : pLt _ _ → pLt _ _) ?_); first | refine pLt_int ?_ | fail) | ((with_reducible refine (id : pGt _ _ → pGt _ _) ?_); first | refine pGt_int ?_ | fail) | ((with_reducible refine (id : pLe _ _ → pLe _ _) ?_); first | refine pLe_int ?_ | fail) | ((with_reducible refine (id : pGe _ _ → pGe _ _) ?_); first | refine pGe_int ?_ | fail) | ((with_reducible refine (id : pMul _ _ → pMul _ _) ?_); first | refine ⟨.inl ⟨by omega, by omega⟩, ?_⟩ | refine ⟨.inr ⟨by omega, by omega⟩, ?_⟩ | fail) | ((with_reducible refine (id : pMod _ _ → pMod _ _) ?_); first | refine ⟨_, _, rfl, by omega, ?_⟩ | fail) | ((with_reducible refine (id : pDiv _ _ → pDiv _ _) ?_); first | refine ⟨_, _, rfl, ⟨by omega, by omega⟩, ?_⟩ | fail) | ((with_reducible refine (id : pPow _ _ → pPow _ _) ?_); first | refine ⟨_, _, rfl, ⟨by decide, by decide, by decide⟩, ?_⟩ | fail) | ((with_reducible refine (id : pSub _ _ → pSub _ _) ?_); first | refine ⟨_, _, rfl, ?_⟩ | fail) | ((with_reducible refine (id : pIx _ _ → pIx _ _) ?_); first | refine ⟨_, rfl, ?_⟩ | refine ⟨_, dSk_at (by assumption), ?_⟩ | refine ⟨_, nums_at (by omega), ?_⟩ | refine ⟨_, nats_at (by omega), ?_⟩ | refine ⟨_, nums_first (by omega), ?_⟩ | refine ⟨_, nums_last (by omega), ?_⟩ | fail) | ((with_reducible refine (id : φMake _ _ _ → φMake _ _ _) ?_); first | refine ⟨_, rfl, by omega, ?_⟩ | fail) | ((with_reducible refine (id : pMax _ _ → pMax _ _) ?_); first | refine pMax2 ?_ | fail) | ((with_reducible refine (id : pMin _ _ → pMin _ _) ?_); first | refine pMin2 ?_ | fail) | ((with_reducible refine (id : pSort2 _ _ → pSort2 _ _) ?_); first | refine pSort2_l ?_ | refine pSort2_t ?_ | fail) | ((with_reducible refine (id : pRepr _ _ → pRepr _ _) ?_); first | refine Nice.rp (by assumption) (by decide) (by decide) ?_ | refine (Nice.int (by omega) (by omega)).rp (by decide) (by decide) ?_ | fail) | ((with_reducible refine (id : pSl _ _ → pSl _ _) ?_); first | refine ⟨_, _, rfl, rfl, ?_⟩ | fail) | ((with_reducible refine (id : pIn _ _ → pIn _ _) ?_); first | refine pIn_row (by first | exact .inl rfl | exact .inr rfl | assumption) ?_ | fail) | ((with_reducible refine (id : pNin _ _ → pNin _ _) ?_); first | refine pNin_row (by first | exact .inl rfl | exact .inr rfl | assumption) ?_ | fail) | ((with_reducible refine (id : φDraw _ _ _ → φDraw _ _ _) ?_); first | refine ⟨_, rfl, by first | decide | omega, by first | decide | omega, fun i hi => ?_⟩ | fail) | (refine ⟨(rfl : ltB _ _), ?_⟩; try dsimp only [upds, putBack, backSl, wipeS, keepS, List.set_cons_zero, List.set_cons_succ, getD_s, getD_z, List.cons_append, List.nil_append, List.replicate, List.reduceReplicate, R.sl]) | ((with_reducible refine (id : @ite _ _ _ _ _ → @ite _ _ _ _ _) ?_); first | refine iteT rfl ?_ | refine iteF rfl ?_ | refine iteB (fun hh => ?_) (fun hh => ?_) | refine iteb (fun hh => ?_) (fun hh => ?_) | fail) | ((fail_if_success (with_reducible refine (id : pEq _ _ → pEq _ _) ?_)); (fail_if_success (with_reducible refine (id : pNe _ _ → pNe _ _) ?_)); (fail_if_success (with_reducible refine (id : pLt _ _ → pLt _ _) ?_)); (fail_if_success (with_reducible refine (id : pGt _ _ → pGt _ _) ?_)); (fail_if_success (with_reducible refine (id : pLe _ _ → pLe _ _) ?_)); (fail_if_success (with_reducible refine (id : pGe _ _ → pGe _ _) ?_)); (fail_if_success (with_reducible refine (id : pMul _ _ → pMul _ _) ?_)); (fail_if_success (with_reducible refine (id : pMod _ _ → pMod _ _) ?_)); (fail_if_success (with_reducible refine (id : pDiv _ _ → pDiv _ _) ?_)); (fail_if_success (with_reducible refine (id : pPow _ _ → pPow _ _) ?_)); (fail_if_success (with_reducible refine (id : pSub _ _ → pSub _ _) ?_)); (fail_if_success (with_reducible refine (id : pIx _ _ → pIx _ _) ?_)); (fail_if_success (with_reducible refine (id : φMake _ _ _ → φMake _ _ _) ?_)); (fail_if_success (with_reducible refine (id : pMax _ _ → pMax _ _) ?_)); (fail_if_success (with_reducible refine (id : pMin _ _ → pMin _ _) ?_)); (fail_if_success (with_reducible refine (id : pSort2 _ _ → pSort2 _ _) ?_)); (fail_if_success (with_reducible refine (id : pRepr _ _ → pRepr _ _) ?_)); (fail_if_success (with_reducible refine (id : pSl _ _ → pSl _ _) ?_)); (fail_if_success (with_reducible refine (id : pIn _ _ → pIn _ _) ?_)); (fail_if_success (with_reducible refine (id : pNin _ _ → pNin _ _) ?_)); (fail_if_success (with_reducible refine (id : φDraw _ _ _ → φDraw _ _ _) ?_)); (fail_if_success (with_reducible refine (id : φ__law_lengths _ _ _ → φ__law_lengths _ _ _) ?_)); (fail_if_success (with_reducible refine (id : φ__law_jumps _ _ _ → φ__law_jumps _ _ _) ?_)); (fail_if_success (with_reducible refine (id : φ__law_way _ _ _ → φ__law_way _ _ _) ?_)); (fail_if_success (with_reducible refine (id : φ__law_pick _ _ _ → φ__law_pick _ _ _) ?_)); (fail_if_success (with_reducible refine (id : φ__law_some _ _ _ → φ__law_some _ _ _) ?_)); first | refine ⟨rfl, ?_⟩ | refine ⟨_, rfl, ?_⟩ | refine ⟨_, rfl, rfl, ?_⟩ | refine ⟨_, _, rfl, ?_⟩ | refine ⟨_, _, rfl, rfl, ?_⟩ | refine ⟨⟨_, _, rfl⟩, ?_⟩ | refine ⟨_, _, _, rfl, rfl, ?_⟩ | refine ⟨_, _, _, rfl, ?_⟩ | refine And.intro (by omega) ?_ | refine And.intro ⟨by omega, by omega⟩ ?_ | refine And.intro (by assumption) ?_ | refine And.intro (sz (by first | omega | (simp only [List.length_append, List.length_cons, List.length_nil, List.length_map, dInts_len, List.length_set]; omega))) ?_ | refine And.intro (szl (by first | omega | (simp only [List.length_append, List.length_cons, List.length_nil, List.length_map, dInts_len, List.length_set]; omega))) ?_ | fail) | fail))
    obtain ⟨c0, rfl⟩ := all_int (by rfl) hd
    have sl : (rs.map PyData.int).length < sizeLine := by rw [List.length_map]; exact szl (by simp at h1; omega)
    (repeat' ((fail_if_success (with_reducible refine ForI.stop ?_)); (fail_if_success (with_reducible refine CompI.stop ?_)); (fail_if_success (with_reducible refine whileI.stop ?_)); first | ((with_reducible refine (id : φ__law_some _ _ _ → φ__law_some _ _ _) ?_); first | refine ⟨_, rfl, by first | omega | exact Nat.le_trans (jumps24 (by assumption)) (by decide), fun ch hc hcl => ?_⟩ | fail) | ((with_reducible refine (id : φ__law_pick _ _ _ → φ__law_pick _ _ _) ?_); first | refine ⟨_, rfl, by simp, by simp, fun d hd => ?_⟩ | fail) | ((with_reducible refine (id : φ__law_way _ _ _ → φ__law_way _ _ _) ?_); first | refine φ__law_way_go (by assumption) (by assumption) (by first | exact .inl rfl | exact .inr rfl | assumption) (by omega) (by omega) ?_ | fail) | ((with_reducible refine (id : φ__law_jumps _ _ _ → φ__law_jumps _ _ _) ?_); first | refine ⟨_, rfl, by have := (‹SkOk _›).1; omega, ?_⟩ | fail) | ((with_reducible refine (id : φ__law_lengths _ _ _ → φ__law_lengths _ _ _) ?_); first | refine ⟨_, _, rfl, by have := (‹SkOk _›).1; omega, fun ls hl hb => ?_⟩ | fail) | ((with_reducible refine (id : pEq _ _ → pEq _ _) ?_); first | refine pEq_strT ?_ | refine pEq_int ?_ | refine pEq_str ?_ | refine pEq_nils ?_ | refine pEq_nilt ?_ | fail) | ((with_reducible refine (id : pNe _ _ → pNe _ _) ?_); first | refine pNe_strF ?_ | refine pNe_int ?_ | refine pNe_str ?_ | refine pNe_nils ?_ | refine pNe_nilt ?_ | fail) | ((with_reducible refine (id : pLt _ _ → pLt _ _) ?_); first | refine pLt_int ?_ | fail) | ((with_reducible refine (id : pGt _ _ → pGt _ _) ?_); first | refine pGt_int ?_ | fail) | ((with_reducible refine (id : pLe _ _ → pLe _ _) ?_); first | refine pLe_int ?_ | fail) | ((with_reducible refine (id : pGe _ _ → pGe _ _) ?_); first | refine pGe_int ?_ | fail) | ((with_reducible refine (id : pMul _ _ → pMul _ _) ?_); first | refine ⟨.inl ⟨by omega, by omega⟩, ?_⟩ | refine ⟨.inr ⟨by omega, by omega⟩, ?_⟩ | fail) | ((with_reducible refine (id : pMod _ _ → pMod _ _) ?_); first | refine ⟨_, _, rfl, by omega, ?_⟩ | fail) | ((with_reducible refine (id : pDiv _ _ → pDiv _ _) ?_); first | refine ⟨_, _, rfl, ⟨by omega, by omega⟩, ?_⟩ | fail) | ((with_reducible refine (id : pPow _ _ → pPow _ _) ?_); first | refine ⟨_, _, rfl, ⟨by decide, by decide, by decide⟩, ?_⟩ | fail) | ((with_reducible refine (id : pSub _ _ → pSub _ _) ?_); first | refine ⟨_, _, rfl, ?_⟩ | fail) | ((with_reducible refine (id : pIx _ _ → pIx _ _) ?_); first | refine ⟨_, rfl, ?_⟩ | refine ⟨_, dSk_at (by assumption), ?_⟩ | refine ⟨_, nums_at (by omega), ?_⟩ | refine ⟨_, nats_at (by omega), ?_⟩ | refine ⟨_, nums_first (by omega), ?_⟩ | refine ⟨_, nums_last (by omega), ?_⟩ | fail) | ((with_reducible refine (id : φMake _ _ _ → φMake _ _ _) ?_); first | refine ⟨_, rfl, by omega, ?_⟩ | fail) | ((with_reducible refine (id : pMax _ _ → pMax _ _) ?_); first | refine pMax2 ?_ | fail) | ((with_reducible refine (id : pMin _ _ → pMin _ _) ?_); first | refine pMin2 ?_ | fail) | ((with_reducible refine (id : pSort2 _ _ → pSort2 _ _) ?_); first | refine pSort2_l ?_ | refine pSort2_t ?_ | fail) | ((with_reducible refine (id : pRepr _ _ → pRepr _ _) ?_); first | refine Nice.rp (by assumption) (by decide) (by decide) ?_ | refine (Nice.int (by omega) (by omega)).rp (by decide) (by decide) ?_ | fail) | ((with_reducible refine (id : pSl _ _ → pSl _ _) ?_); first | refine ⟨_, _, rfl, rfl, ?_⟩ | fail) | ((with_reducible refine (id : pIn _ _ → pIn _ _) ?_); first | refine pIn_row (by first | exact .inl rfl | exact .inr rfl | assumption) ?_ | fail) | ((with_reducible refine (id : pNin _ _ → pNin _ _) ?_); first | refine pNin_row (by first | exact .inl rfl | exact .inr rfl | assumption) ?_ | fail) | ((with_reducible refine (id : φDraw _ _ _ → φDraw _ _ _) ?_); first | refine ⟨_, rfl, by first | decide | omega, by first | decide | omega, fun i hi => ?_⟩ | fail) | (refine ⟨(rfl : ltB _ _), ?_⟩; try dsimp only [upds, putBack, backSl, wipeS, keepS, List.set_cons_zero, List.set_cons_succ, getD_s, getD_z, List.cons_append, List.nil_append, List.replicate, List.reduceReplicate, R.sl]) | ((with_reducible refine (id : @ite _ _ _ _ _ → @ite _ _ _ _ _) ?_); first | refine iteT rfl ?_ | refine iteF rfl ?_ | refine iteB (fun hh => ?_) (fun hh => ?_) | refine iteb (fun hh => ?_) (fun hh => ?_) | fail) | ((fail_if_success (with_reducible refine (id : pEq _ _ → pEq _ _) ?_)); (fail_if_success (with_reducible refine (id : pNe _ _ → pNe _ _) ?_)); (fail_if_success (with_reducible refine (id : pLt _ _ → pLt _ _) ?_)); (fail_if_success (with_reducible refine (id : pGt _ _ → pGt _ _) ?_)); (fail_if_success (with_reducible refine (id : pLe _ _ → pLe _ _) ?_)); (fail_if_success (with_reducible refine (id : pGe _ _ → pGe _ _) ?_)); (fail_if_success (with_reducible refine (id : pMul _ _ → pMul _ _) ?_)); (fail_if_success (with_reducible refine (id : pMod _ _ → pMod _ _) ?_)); (fail_if_success (with_reducible refine (id : pDiv _ _ → pDiv _ _) ?_)); (fail_if_success (with_reducible refine (id : pPow _ _ → pPow _ _) ?_)); (fail_if_success (with_reducible refine (id : pSub _ _ → pSub _ _) ?_)); (fail_if_success (with_reducible refine (id : pIx _ _ → pIx _ _) ?_)); (fail_if_success (with_reducible refine (id : φMake _ _ _ → φMake _ _ _) ?_)); (fail_if_success (with_reducible refine (id : pMax _ _ → pMax _ _) ?_)); (fail_if_success (with_reducible refine (id : pMin _ _ → pMin _ _) ?_)); (fail_if_success (with_reducible refine (id : pSort2 _ _ → pSort2 _ _) ?_)); (fail_if_success (with_reducible refine (id : pRepr _ _ → pRepr _ _) ?_)); (fail_if_success (with_reducible refine (id : pSl _ _ → pSl _ _) ?_)); (fail_if_success (with_reducible refine (id : pIn _ _ → pIn _ _) ?_)); (fail_if_success (with_reducible refine (id : pNin _ _ → pNin _ _) ?_)); (fail_if_success (with_reducible refine (id : φDraw _ _ _ → φDraw _ _ _) ?_)); (fail_if_success (with_reducible refine (id : φ__law_lengths _ _ _ → φ__law_lengths _ _ _) ?_)); (fail_if_success (with_reducible refine (id : φ__law_jumps _ _ _ → φ__law_jumps _ _ _) ?_)); (fail_if_success (with_reducible refine (id : φ__law_way _ _ _ → φ__law_way _ _ _) ?_)); (fail_if_success (with_reducible refine (id : φ__law_pick _ _ _ → φ__law_pick _ _ _) ?_)); (fail_if_success (with_reducible refine (id : φ__law_some _ _ _ → φ__law_some _ _ _) ?_)); first | refine ⟨rfl, ?_⟩ | refine ⟨_, rfl, ?_⟩ | refine ⟨_, rfl, rfl, ?_⟩ | refine ⟨_, _, rfl, ?_⟩ | refine ⟨_, _, rfl, rfl, ?_⟩ | refine ⟨⟨_, _, rfl⟩, ?_⟩ | refine ⟨_, _, _, rfl, rfl, ?_⟩ | refine ⟨_, _, _, rfl, ?_⟩ | refine And.intro (by omega) ?_ | refine And.intro ⟨by omega, by omega⟩ ?_ | refine And.intro (by assumption) ?_ | refine And.intro (sz (by first | omega | (simp only [List.length_append, List.length_cons, List.length_nil, List.length_map, dInts_len, List.length_set]; omega))) ?_ | refine And.intro (szl (by first | omega | (simp only [List.length_append, List.length_cons, List.length_nil, List.length_map, dInts_len, List.length_set]; omega))) ?_ | fail) | fail))
    have hN2 := fun a b c => hN (rs ++ [min (max 0 c0) 1000000000], a, b, c) ⟨by simp at h1 ⊢; omega, fun x hx => by
      rcases List.mem_append.mp hx with hx | hx
      · exact h2 x hx
      · rw [List.mem_singleton.mp hx]; omega, fun d hd => h3 d (by simp [hd])⟩
    simp only [ints_app] at hN2
    exact hN2 _ _ _

theorem d__law_program {P : Program} {w : World} {K : PySem.W.Frag} {mg : Str → Option Value} {base : Heap} {T : Xd} (z : Txt mg) (F__law_lengths : Fd P w K mg base (Gs K) T 3 3 "_law_lengths" ["stock", "skeleton", "is_great"] [] φ__law_lengths) (F__law_jumps : Fd P w K mg base (Gs K) T 1 1 "_law_jumps" ["skeleton"] [] φ__law_jumps) (F__law_way : Fd P w K mg base (Gs K) T 2 4 "_law_way" ["skeleton", "lengths", "choice", "jump"] [] φ__law_way) (F__law_pick : Fd P w K mg base (Gs K) T 2 2 "_law_pick" ["stock", "row"] [] φ__law_pick) (F__law_some : Fd P w K mg base (Gs K) T 2 2 "_law_some" ["stock", "row"] [] φ__law_some) (F__law_draw : Fd P w K mg base (Gs K) T 1 2 "_law_draw" ["stock", "size"] [] φ__law_draw) (W : Wr K mg "_law_program" s__law_program) : Fd P w K mg base (Gs K) T 4 3 "_law_program" ["stock", "skeleton", "is_great"] [] φ__law_program :=
  Fd.of W sc__law_program (fun _ _ _ _ _ _ us hl => match us, hl with | [_, _, _], _ => rfl) bk0 rfl rfl rfl (fun f cdv A outer s H E pl => b__law_program z F__law_lengths F__law_jumps F__law_way F__law_pick F__law_some F__law_draw f cdv A outer s H E pl) c__law_program φ__law_program_mono
abbrev φ__law_held : Spc := Det (α := Sk × List Int × List Int × List Nat × PyData) (fun (sk, ls, rs, ch, c) => [.sh (dProg sk ls rs), .sh c])
  (fun (sk, ls, rs, ch, c) => SkOk sk ∧ sk.length ≤ ls.length ∧ IsRow c ch ∧ ch.length ≤ 1000) (fun (sk, ls, rs, ch, c) => .sh (.tuple (dInts (stuckOf sk ls rs ch))))
theorem φ__law_held_mono : MonoS φ__law_held := Det_mono
--go: ⟨(_, _, _, _, _), rfl, ⟨by assumption, by omega, by first | exact .inl rfl | exact .inr rfl | assumption, by omega⟩, ?_⟩
--go: ⟨(_, _, _, _, _), rfl, ⟨(‹PrOk _ _ _›).ok, by have := (‹PrOk _ _ _›).ll; omega, by first | exact .inl rfl | exact .inr rfl | assumption, by omega⟩, ?_⟩

def w__law_held_3 : WS := seqS (retS (primW pTup (seqA [vwG 5]))) nxS
def w__law_held_2f0a0 : WS := seqS (dropS (mthE 5 (seqA [ofE (varE 6)]) mApp)) nxS
def w__law_held_2f0 : WS := seqS (ifS (andT (valT (primW pNin (seqA [vwG 6, vwG 1]))) (valT (primW pGt (seqA [ofE (callW φ__law_way (seqA [ofE (varE 2), ofE (varE 3), ofE (varE 1), ofE (varE 6)])), vwG 7])))) (w__law_held_2f0a0) (nxS)) nxS
def w__law_held_2 : WS := seqS (forI (zipI (callW φ__law_jumps (seqA [ofE (varE 2)])) (varE 4)) (tupT [6, 7]) (w__law_held_2f0)) w__law_held_3
def w__law_held_1 : WS := seqS (asgS 5 (lstE (seqA []))) w__law_held_2
def w__law_held : WS := seqS (unpS [2, 3, 4] (varE 0)) w__law_held_1
theorem b__law_held {P : Program} {w : World} {K : PySem.W.Frag} {mg : Str → Option Value} {base : Heap} {G : Wd} {T : Xd} (z : Txt mg) (F__law_jumps : Fd P w K mg base G T 1 1 "_law_jumps" ["skeleton"] [] φ__law_jumps) (F__law_way : Fd P w K mg base G T 2 4 "_law_way" ["skeleton", "lengths", "choice", "jump"] [] φ__law_way) (f : Addr) (cdv : Value) (A : Around) (outer : List Env) (s : Shared) (H : Hp) (E : XK) (pl : Plc G 2 (fun cls d _ H => E cls d H) (cxD P w K mg base ["program", "choice", "skeleton", "lengths", "reaches", "found", "jump", "reach"] "_law_held" (defScope s__law_held) f cdv A outer s H E)) :
    Bs G T (fun cls d _ H => E cls d H) (cxD P w K mg base ["program", "choice", "skeleton", "lengths", "reaches", "found", "jump", "reach"] "_law_held" (defScope s__law_held) f cdv A outer s H E) (defBody s__law_held) w__law_held :=
  (bC (sUnp (gT pl (gsC (gN 2 sc__law_held.nd) (gsC (gN 3 sc__law_held.nd) (gsC (gN 4 sc__law_held.nd) gsN)))) (vE 0)) (bC (sAsg 5 sc__law_held.nd (eLst aN)) (bC (sFor pl (iZip2 pl z.zip (eF pl F__law_jumps (ha := (aC (vE 2).g aN))) (vE 4)) (gT pl (gsC (gN 6 sc__law_held.nd) (gsC (gN 7 sc__law_held.nd) gsN))) (bC (sIf (tBool (vAnd (tCmp (cNin pl) (vG 6) (vG 1)) (vAnd1 (tCmp (cGt pl) (eF pl F__law_way (ha := (aC (vE 2).g (aC (vE 3).g (aC (vE 1).g (aC (vE 6).g aN)))))).g (vG 7))))) (bC (sExpr (mAppend 5 pl (aC (vE 6).g aN))) bN) bN) bN)) (bC (sRet (bTup pl z.tuple (aC (vG 5) aN))) bN))))
theorem c__law_held (as : List Sl) (Q : R → List Sl → Prop) (E : Exc → List Sl → Prop) (h : φ__law_held as Q E) : body 6 w__law_held as Q E := by
  obtain ⟨⟨sk, ls, rs, ch, c⟩, rfl, ⟨hs, hl, hc, hn⟩, q⟩ := h
  dsimp only at q ⊢
  have hz := zip_jr (jumpsOf 0 sk) rs
  have jl := jumps24 hs
  have zl : ((jumpsOf 0 sk).zip rs).length ≤ 24 := by rw [List.length_zip]; omega
  (repeat' ((fail_if_success (with_reducible refine ForI.stop ?_)); (fail_if_success (with_reducible refine CompI.stop ?_)); (fail_if_success (with_reducible refine whileI.stop ?_)); first | ((with_reducible refine (id : φ__law_way _ _ _ → φ__law_way _ _ _) ?_); first | refine φ__law_way_go (by assumption) (by assumption) (by first | exact .inl rfl | exact .inr rfl | assumption) (by omega) (by omega) ?_ | fail) | ((with_reducible refine (id : φ__law_jumps _ _ _ → φ__law_jumps _ _ _) ?_); first | refine ⟨_, rfl, by have := (‹SkOk _›).1; omega, ?_⟩ | fail) | ((with_reducible refine (id : pEq _ _ → pEq _ _) ?_); first | refine pEq_strT ?_ | refine pEq_int ?_ | refine pEq_str ?_ | refine pEq_nils ?_ | refine pEq_nilt ?_ | fail) | ((with_reducible refine (id : pNe _ _ → pNe _ _) ?_); first | refine pNe_strF ?_ | refine pNe_int ?_ | refine pNe_str ?_ | refine pNe_nils ?_ | refine pNe_nilt ?_ | fail) | ((with_reducible refine (id : pLt _ _ → pLt _ _) ?_); first | refine pLt_int ?_ | fail) | ((with_reducible refine (id : pGt _ _ → pGt _ _) ?_); first | refine pGt_int ?_ | fail) | ((with_reducible refine (id : pLe _ _ → pLe _ _) ?_); first | refine pLe_int ?_ | fail) | ((with_reducible refine (id : pGe _ _ → pGe _ _) ?_); first | refine pGe_int ?_ | fail) | ((with_reducible refine (id : pMul _ _ → pMul _ _) ?_); first | refine ⟨.inl ⟨by omega, by omega⟩, ?_⟩ | refine ⟨.inr ⟨by omega, by omega⟩, ?_⟩ | fail) | ((with_reducible refine (id : pMod _ _ → pMod _ _) ?_); first | refine ⟨_, _, rfl, by omega, ?_⟩ | fail) | ((with_reducible refine (id : pDiv _ _ → pDiv _ _) ?_); first | refine ⟨_, _, rfl, ⟨by omega, by omega⟩, ?_⟩ | fail) | ((with_reducible refine (id : pPow _ _ → pPow _ _) ?_); first | refine ⟨_, _, rfl, ⟨by decide, by decide, by decide⟩, ?_⟩ | fail) | ((with_reducible refine (id : pSub _ _ → pSub _ _) ?_); first | refine ⟨_, _, rfl, ?_⟩ | fail) | ((with_reducible refine (id : pIx _ _ → pIx _ _) ?_); first | refine ⟨_, rfl, ?_⟩ | refine ⟨_, dSk_at (by assumption), ?_⟩ | refine ⟨_, nums_at (by omega), ?_⟩ | refine ⟨_, nats_at (by omega), ?_⟩ | refine ⟨_, nums_first (by omega), ?_⟩ | refine ⟨_, nums_last (by omega), ?_⟩ | fail) | ((with_reducible refine (id : φMake _ _ _ → φMake _ _ _) ?_); first | refine ⟨_, rfl, by omega, ?_⟩ | fail) | ((with_reducible refine (id : pMax _ _ → pMax _ _) ?_); first | refine pMax2 ?_ | fail) | ((with_reducible refine (id : pMin _ _ → pMin _ _) ?_); first | refine pMin2 ?_ | fail) | ((with_reducible refine (id : pSort2 _ _ → pSort2 _ _) ?_); first | refine pSort2_l ?_ | refine pSort2_t ?_ | fail) | ((with_reducible refine (id : pRepr _ _ → pRepr _ _) ?_); first | refine Nice.rp (by assumption) (by decide) (by decide) ?_ | refine (Nice.int (by omega) (by omega)).rp (by decide) (by decide) ?_ | fail) | ((with_reducible refine (id : pSl _ _ → pSl _ _) ?_); first | refine ⟨_, _, rfl, rfl, ?_⟩ | fail) | ((with_reducible refine (id : pIn _ _ → pIn _ _) ?_); first | refine pIn_row (by first | exact .inl rfl | exact .inr rfl | assumption) ?_ | fail) | ((with_reducible refine (id : pNin _ _ → pNin _ _) ?_); first | refine pNin_row (by first | exact .inl rfl | exact .inr rfl | assumption) ?_ | fail) | ((with_reducible refine (id : φDraw _ _ _ → φDraw _ _ _) ?_); first | refine ⟨_, rfl, by first | decide | omega, by first | decide | omega, fun i hi => ?_⟩ | fail) | (refine ⟨(rfl : ltB _ _), ?_⟩; try dsimp only [upds, putBack, backSl, wipeS, keepS, List.set_cons_zero, List.set_cons_succ, getD_s, getD_z, List.cons_append, List.nil_append, List.replicate, List.reduceReplicate, R.sl]) | ((with_reducible refine (id : @ite _ _ _ _ _ → @ite _ _ _ _ _) ?_); first | refine iteT rfl ?_ | refine iteF rfl ?_ | refine iteB (fun hh => ?_) (fun hh => ?_) | refine iteb (fun hh => ?_) (fun hh => ?_) | fail) | ((fail_if_success (with_reducible refine (id : pEq _ _ → pEq _ _) ?_)); (fail_if_success (with_reducible refine (id : pNe _ _ → pNe _ _) ?_)); (fail_if_success (with_reducible refine (id : pLt _ _ → pLt _ _) ?_)); (fail_if_success (with_reducible refine (id : pGt _ _ → pGt _ _) ?_)); (fail_if_success (with_reducible refine (id : pLe _ _ → pLe _ _) ?_)); (fail_if_success (with_reducible refine (id : pGe _ _ → pGe _ _) ?_)); (fail_if_success (with_reducible refine (id : pMul _ _ → pMul _ _) ?_)); (fail_if_success (with_reducible refine (id : pMod _ _ → pMod _ _) ?_)); (fail_if_success (with_reducible refine (id : pDiv _ _ → pDiv _ _) ?_)); (fail_if_success (with_reducible refine (id : pPow _ _ → pPow _ _) ?_)); (fail_if_success (with_reducible refine (id : pSub _ _ → pSub _ _) ?_)); (fail_if_success (with_reducible refine (id : pIx _ _ → pIx _ _) ?_)); (fail_if_success (with_reducible refine (id : φMake _ _ _ → φMake _ _ _) ?_)); (fail_if_success (with_reducible refine (id : pMax _ _ → pMax _ _) ?_)); (fail_if_success (with_reducible refine (id : pMin _ _ → pMin _ _) ?_)); (fail_if_success (with_reducible refine (id : pSort2 _ _ → pSort2 _ _) ?_)); (fail_if_success (with_reducible refine (id : pRepr _ _ → pRepr _ _) ?_)); (fail_if_success (with_reducible refine (id : pSl _ _ → pSl _ _) ?_)); (fail_if_success (with_reducible refine (id : pIn _ _ → pIn _ _) ?_)); (fail_if_success (with_reducible refine (id : pNin _ _ → pNin _ _) ?_)); (fail_if_success (with_reducible refine (id : φDraw _ _ _ → φDraw _ _ _) ?_)); (fail_if_success (with_reducible refine (id : φ__law_jumps _ _ _ → φ__law_jumps _ _ _) ?_)); (fail_if_success (with_reducible refine (id : φ__law_way _ _ _ → φ__law_way _ _ _) ?_)); first | refine ⟨rfl, ?_⟩ | refine ⟨_, rfl, ?_⟩ | refine ⟨_, rfl, rfl, ?_⟩ | refine ⟨_, _, rfl, ?_⟩ | refine ⟨_, _, rfl, rfl, ?_⟩ | refine ⟨⟨_, _, rfl⟩, ?_⟩ | refine ⟨_, _, _, rfl, rfl, ?_⟩ | refine ⟨_, _, _, rfl, ?_⟩ | refine And.intro (by omega) ?_ | refine And.intro ⟨by omega, by omega⟩ ?_ | refine And.intro (by assumption) ?_ | refine And.intro (sz (by first | omega | (simp only [List.length_append, List.length_cons, List.length_nil, List.length_map, dInts_len, List.length_set]; omega))) ?_ | refine And.intro (szl (by first | omega | (simp only [List.length_append, List.length_cons, List.length_nil, List.length_map, dInts_len, List.length_set]; omega))) ?_ | fail) | fail))
  refine ForI.acc [5, 6, 7] (fun acc (a, b) => [.ol false (dInts acc), a, b]) dJR ((jumpsOf 0 sk).zip rs) (stuckG sk ls ch) [] (_, _) hz (by rfl) (fun p _ => stuckG_le sk ls ch p) ?_ ?_
  · rintro ⟨b0, b1⟩
    (repeat' ((fail_if_success (with_reducible refine ForI.stop ?_)); (fail_if_success (with_reducible refine CompI.stop ?_)); (fail_if_success (with_reducible refine whileI.stop ?_)); first | ((with_reducible refine (id : φ__law_way _ _ _ → φ__law_way _ _ _) ?_); first | refine φ__law_way_go (by assumption) (by assumption) (by first | exact .inl rfl | exact .inr rfl | assumption) (by omega) (by omega) ?_ | fail) | ((with_reducible refine (id : φ__law_jumps _ _ _ → φ__law_jumps _ _ _) ?_); first | refine ⟨_, rfl, by have := (‹SkOk _›).1; omega, ?_⟩ | fail) | ((with_reducible refine (id : pEq _ _ → pEq _ _) ?_); first | refine pEq_strT ?_ | refine pEq_int ?_ | refine pEq_str ?_ | refine pEq_nils ?_ | refine pEq_nilt ?_ | fail) | ((with_reducible refine (id : pNe _ _ → pNe _ _) ?_); first | refine pNe_strF ?_ | refine pNe_int ?_ | refine pNe_str ?_ | refine pNe_nils ?_ | refine pNe_nilt ?_ | fail) | ((with_reducible refine (id : pLt _ _ → pLt _ _) ?_); first | refine pLt_int ?_ | fail) | ((with_reducible refine (id : pGt _ _ → pGt _ _) ?_); first | refine pGt_int ?_ | fail) | ((with_reducible refine (id : pLe _ _ → pLe _ _) ?_); first | refine pLe_int ?_ | fail) | ((with_reducible refine (id : pGe _ _ → pGe _ _) ?_); first | refine pGe_int ?_ | fail) | ((with_reducible refine (id : pMul _ _ → pMul _ _) ?_); first | refine ⟨.inl ⟨by omega, by omega⟩, ?_⟩ | refine ⟨.inr ⟨by omega, by omega⟩, ?_⟩ | fail) | ((with_reducible refine (id : pMod _ _ → pMod _ _) ?_); first | refine ⟨_, _, rfl, by omega, ?_⟩ | fail) | ((with_reducible refine (id : pDiv _ _ → pDiv _ _) ?_); first | refine ⟨_, _, rfl, ⟨by omega, by omega⟩, ?_⟩ | fail) | ((with_reducible refine (id : pPow _ _ → pPow _ _) ?_); first | refine ⟨_, _, rfl, ⟨by decide, by decide, by decide⟩, ?_⟩ | fail) | ((with_reducible refine (id : pSub _ _ → pSub _ _) ?_); first | refine ⟨_, _, rfl, ?_⟩ | fail) | ((with_reducible refine (id : pIx _ _ → pIx _ _) ?_); first | refine ⟨_, rfl, ?_⟩ | refine ⟨_, dSk_at (by assumption), ?_⟩ | refine ⟨_, nums_at (by omega), ?_⟩ | refine ⟨_, nats_at (by omega), ?_⟩ | refine ⟨_, nums_first (by omega), ?_⟩ | refine ⟨_, nums_last (by omega), ?_⟩ | fail) | ((with_reducible refine (id : φMake _ _ _ → φMake _ _ _) ?_); first | refine ⟨_, rfl, by omega, ?_⟩ | fail) | ((with_reducible refine (id : pMax _ _ → pMax _ _) ?_); first | refine pMax2 ?_ | fail) | ((with_reducible refine (id : pMin _ _ → pMin _ _) ?_); first | refine pMin2 ?_ | fail) | ((with_reducible refine (id : pSort2 _ _ → pSort2 _ _) ?_); first | refine pSort2_l ?_ | refine pSort2_t ?_ | fail) | ((with_reducible refine (id : pRepr _ _ → pRepr _ _) ?_); first | refine Nice.rp (by assumption) (by decide) (by decide) ?_ | refine (Nice.int (by omega) (by omega)).rp (by decide) (by decide) ?_ | fail) | ((with_reducible refine (id : pSl _ _ → pSl _ _) ?_); first | refine ⟨_, _, rfl, rfl, ?_⟩ | fail) | ((with_reducible refine (id : pIn _ _ → pIn _ _) ?_); first | refine pIn_row (by first | exact .inl rfl | exact .inr rfl | assumption) ?_ | fail) | ((with_reducible refine (id : pNin _ _ → pNin _ _) ?_); first | refine pNin_row (by first | exact .inl rfl | exact .inr rfl | assumption) ?_ | fail) | ((with_reducible refine (id : φDraw _ _ _ → φDraw _ _ _) ?_); first | refine ⟨_, rfl, by first | decide | omega, by first | decide | omega, fun i hi => ?_⟩ | fail) | (refine ⟨(rfl : ltB _ _), ?_⟩; try dsimp only [upds, putBack, backSl, wipeS, keepS, List.set_cons_zero, List.set_cons_succ, getD_s, getD_z, List.cons_append, List.nil_append, List.replicate, List.reduceReplicate, R.sl]) | ((with_reducible refine (id : @ite _ _ _ _ _ → @ite _ _ _ _ _) ?_); first | refine iteT rfl ?_ | refine iteF rfl ?_ | refine iteB (fun hh => ?_) (fun hh => ?_) | refine iteb (fun hh => ?_) (fun hh => ?_) | fail) | ((fail_if_success (with_reducible refine (id : pEq _ _ → pEq _ _) ?_)); (fail_if_success (with_reducible refine (id : pNe _ _ → pNe _ _) ?_)); (fail_if_success (with_reducible refine (id : pLt _ _ → pLt _ _) ?_)); (fail_if_success (with_reducible refine (id : pGt _ _ → pGt _ _) ?_)); (fail_if_success (with_reducible refine (id : pLe _ _ → pLe _ _) ?_)); (fail_if_success (with_reducible refine (id : pGe _ _ → pGe _ _) ?_)); (fail_if_success (with_reducible refine (id : pMul _ _ → pMul _ _) ?_)); (fail_if_success (with_reducible refine (id : pMod _ _ → pMod _ _) ?_)); (fail_if_success (with_reducible refine (id : pDiv _ _ → pDiv _ _) ?_)); (fail_if_success (with_reducible refine (id : pPow _ _ → pPow _ _) ?_)); (fail_if_success (with_reducible refine (id : pSub _ _ → pSub _ _) ?_)); (fail_if_success (with_reducible refine (id : pIx _ _ → pIx _ _) ?_)); (fail_if_success (with_reducible refine (id : φMake _ _ _ → φMake _ _ _) ?_)); (fail_if_success (with_reducible refine (id : pMax _ _ → pMax _ _) ?_)); (fail_if_success (with_reducible refine (id : pMin _ _ → pMin _ _) ?_)); (fail_if_success (with_reducible refine (id : pSort2 _ _ → pSort2 _ _) ?_)); (fail_if_success (with_reducible refine (id : pRepr _ _ → pRepr _ _) ?_)); (fail_if_success (with_reducible refine (id : pSl _ _ → pSl _ _) ?_)); (fail_if_success (with_reducible refine (id : pIn _ _ → pIn _ _) ?_)); (fail_if_success (with_reducible refine (id : pNin _ _ → pNin _ _) ?_)); (fail_if_success (with_reducible refine (id : φDraw _ _ _ → φDraw _ _ _) ?_)); (fail_if_success (with_reducible refine (id : φ__law_jumps _ _ _ → φ__law_jumps _ _ _) ?_)); (fail_if_success (with_reducible refine (id : φ__law_way _ _ _ → φ__law_way _ _ _) ?_)); first | refine ⟨rfl, ?_⟩ | refine ⟨_, rfl, ?_⟩ | refine ⟨_, rfl, rfl, ?_⟩ | refine ⟨_, _, rfl, ?_⟩ | refine ⟨_, _, rfl, rfl, ?_⟩ | refine ⟨⟨_, _, rfl⟩, ?_⟩ | refine ⟨_, _, _, rfl, rfl, ?_⟩ | refine ⟨_, _, _, rfl, ?_⟩ | refine And.intro (by omega) ?_ | refine And.intro ⟨by omega, by omega⟩ ?_ | refine And.intro (by assumption) ?_ | refine And.intro (sz (by first | omega | (simp only [List.length_append, List.length_cons, List.length_nil, List.length_map, dInts_len, List.length_set]; omega))) ?_ | refine And.intro (szl (by first | omega | (simp only [List.length_append, List.length_cons, List.length_nil, List.length_map, dInts_len, List.length_set]; omega))) ?_ | fail) | fail))
    exact q
  · rintro ⟨j, r⟩ acc ⟨b0, b1⟩ N hp ha _ hN
    obtain ⟨g, b, l, h1⟩ := jump_at (show j ∈ jumpsOf 0 sk from (zip_mem hp).1)
    have sl : (dInts acc).length < sizeLine := by rw [dInts_len]; exact szl (by simp at ha; omega)
    have e : stuckG sk ls ch (j, r) = if (!ch.contains j) = true ∧ r < wayOf sk ls ch j g then [j] else [] := by unfold stuckG; rw [goal_at h1]
    rw [e] at hN
    have hw : (!ch.contains j) = true → wayB (lay ls ch sk) j g = wayOf sk ls ch j g := way_short
    (repeat' ((fail_if_success (with_reducible refine ForI.stop ?_)); (fail_if_success (with_reducible refine CompI.stop ?_)); (fail_if_success (with_reducible refine whileI.stop ?_)); first | ((with_reducible refine (id : φ__law_way _ _ _ → φ__law_way _ _ _) ?_); first | refine φ__law_way_go (by assumption) (by assumption) (by first | exact .inl rfl | exact .inr rfl | assumption) (by omega) (by omega) ?_ | fail) | ((with_reducible refine (id : φ__law_jumps _ _ _ → φ__law_jumps _ _ _) ?_); first | refine ⟨_, rfl, by have := (‹SkOk _›).1; omega, ?_⟩ | fail) | ((with_reducible refine (id : pEq _ _ → pEq _ _) ?_); first | refine pEq_strT ?_ | refine pEq_int ?_ | refine pEq_str ?_ | refine pEq_nils ?_ | refine pEq_nilt ?_ | fail) | ((with_reducible refine (id : pNe _ _ → pNe _ _) ?_); first | refine pNe_strF ?_ | refine pNe_int ?_ | refine pNe_str ?_ | refine pNe_nils ?_ | refine pNe_nilt ?_ | fail) | ((with_reducible refine (id : pLt _ _ → pLt _ _) ?_); first | refine pLt_int ?_ | fail) | ((with_reducible refine (id : pGt _ _ → pGt _ _) ?_); first | refine pGt_int ?_ | fail) | ((with_reducible refine (id : pLe _ _ → pLe _ _) ?_); first | refine pLe_int ?_ | fail) | ((with_reducible refine (id : pGe _ _ → pGe _ _) ?_); first | refine pGe_int ?_ | fail) | ((with_reducible refine (id : pMul _ _ → pMul _ _) ?_); first | refine ⟨.inl ⟨by omega, by omega⟩, ?_⟩ | refine ⟨.inr ⟨by omega, by omega⟩, ?_⟩ | fail) | ((with_reducible refine (id : pMod _ _ → pMod _ _) ?_); first | refine ⟨_, _, rfl, by omega, ?_⟩ | fail) | ((with_reducible refine (id : pDiv _ _ → pDiv _ _) ?_); first | refine ⟨_, _, rfl, ⟨by omega, by omega⟩, ?_⟩ | fail) | ((with_reducible refine (id : pPow _ _ → pPow _ _) ?_); first | refine ⟨_, _, rfl, ⟨by decide, by decide, by decide⟩, ?_⟩ | fail) | ((with_reducible refine (id : pSub _ _ → pSub _ _) ?_); first | refine ⟨_, _, rfl, ?_⟩ | fail) | ((with_reducible refine (id : pIx _ _ → pIx _ _) ?_); first | refine ⟨_, rfl, ?_⟩ | refine ⟨_, dSk_at (by assumption), ?_⟩ | refine ⟨_, nums_at (by omega), ?_⟩ | refine ⟨_, nats_at (by omega), ?_⟩ | refine ⟨_, nums_first (by omega), ?_⟩ | refine ⟨_, nums_last (by omega), ?_⟩ | fail) | ((with_reducible refine (id : φMake _ _ _ → φMake _ _ _) ?_); first | refine ⟨_, rfl, by omega, ?_⟩ | fail) | ((with_reducible refine (id : pMax _ _ → pMax _ _) ?_); first | refine pMax2 ?_ | fail) | ((with_reducible refine (id : pMin _ _ → pMin _ _) ?_); first | refine pMin2 ?_ | fail) | ((with_reducible refine (id : pSort2 _ _ → pSort2 _ _) ?_); first | refine pSort2_l ?_ | refine pSort2_t ?_ | fail) | ((with_reducible refine (id : pRepr _ _ → pRepr _ _) ?_); first | refine Nice.rp (by assumption) (by decide) (by decide) ?_ | refine (Nice.int (by omega) (by omega)).rp (by decide) (by decide) ?_ | fail) | ((with_reducible refine (id : pSl _ _ → pSl _ _) ?_); first | refine ⟨_, _, rfl, rfl, ?_⟩ | fail) | ((with_reducible refine (id : pIn _ _ → pIn _ _) ?_); first | refine pIn_row (by first | exact .inl rfl | exact .inr rfl | assumption) ?_ | fail) | ((with_reducible refine (id : pNin _ _ → pNin _ _) ?_); first | refine pNin_row (by first | exact .inl rfl | exact .inr rfl | assumption) ?_ | fail) | ((with_reducible refine (id : φDraw _ _ _ → φDraw _ _ _) ?_); first | refine ⟨_, rfl, by first | decide | omega, by first | decide | omega, fun i hi => ?_⟩ | fail) | (refine ⟨(rfl : ltB _ _), ?_⟩; try dsimp only [upds, putBack, backSl, wipeS, keepS, List.set_cons_zero, List.set_cons_succ, getD_s, getD_z, List.cons_append, List.nil_append, List.replicate, List.reduceReplicate, R.sl]) | ((with_reducible refine (id : @ite _ _ _ _ _ → @ite _ _ _ _ _) ?_); first | refine iteT rfl ?_ | refine iteF rfl ?_ | refine iteB (fun hh => ?_) (fun hh => ?_) | refine iteb (fun hh => ?_) (fun hh => ?_) | fail) | ((fail_if_success (with_reducible refine (id : pEq _ _ → pEq _ _) ?_)); (fail_if_success (with_reducible refine (id : pNe _ _ → pNe _ _) ?_)); (fail_if_success (with_reducible refine (id : pLt _ _ → pLt _ _) ?_)); (fail_if_success (with_reducible refine (id : pGt _ _ → pGt _ _) ?_)); (fail_if_success (with_reducible refine (id : pLe _ _ → pLe _ _) ?_)); (fail_if_success (with_reducible refine (id : pGe _ _ → pGe _ _) ?_)); (fail_if_success (with_reducible refine (id : pMul _ _ → pMul _ _) ?_)); (fail_if_success (with_reducible refine (id : pMod _ _ → pMod _ _) ?_)); (fail_if_success (with_reducible refine (id : pDiv _ _ → pDiv _ _) ?_)); (fail_if_success (with_reducible refine (id : pPow _ _ → pPow _ _) ?_)); (fail_if_success (with_reducible refine (id : pSub _ _ → pSub _ _) ?_)); (fail_if_success (with_reducible refine (id : pIx _ _ → pIx _ _) ?_)); (fail_if_success (with_reducible refine (id : φMake _ _ _ → φMake _ _ _) ?_)); (fail_if_success (with_reducible refine (id : pMax _ _ → pMax _ _) ?_)); (fail_if_success (with_reducible refine (id : pMin _ _ → pMin _ _) ?_)); (fail_if_success (with_reducible refine (id : pSort2 _ _ → pSort2 _ _) ?_)); (fail_if_success (with_reducible refine (id : pRepr _ _ → pRepr _ _) ?_)); (fail_if_success (with_reducible refine (id : pSl _ _ → pSl _ _) ?_)); (fail_if_success (with_reducible refine (id : pIn _ _ → pIn _ _) ?_)); (fail_if_success (with_reducible refine (id : pNin _ _ → pNin _ _) ?_)); (fail_if_success (with_reducible refine (id : φDraw _ _ _ → φDraw _ _ _) ?_)); (fail_if_success (with_reducible refine (id : φ__law_jumps _ _ _ → φ__law_jumps _ _ _) ?_)); (fail_if_success (with_reducible refine (id : φ__law_way _ _ _ → φ__law_way _ _ _) ?_)); first | refine ⟨rfl, ?_⟩ | refine ⟨_, rfl, ?_⟩ | refine ⟨_, rfl, rfl, ?_⟩ | refine ⟨_, _, rfl, ?_⟩ | refine ⟨_, _, rfl, rfl, ?_⟩ | refine ⟨⟨_, _, rfl⟩, ?_⟩ | refine ⟨_, _, _, rfl, rfl, ?_⟩ | refine ⟨_, _, _, rfl, ?_⟩ | refine And.intro (by omega) ?_ | refine And.intro ⟨by omega, by omega⟩ ?_ | refine And.intro (by assumption) ?_ | refine And.intro (sz (by first | omega | (simp only [List.length_append, List.length_cons, List.length_nil, List.length_map, dInts_len, List.length_set]; omega))) ?_ | refine And.intro (szl (by first | omega | (simp only [List.length_append, List.length_cons, List.length_nil, List.length_map, dInts_len, List.length_set]; omega))) ?_ | fail) | fail))
    · rw [if_pos ⟨by assumption, by assumption⟩] at hN
      simp only [dInts_app] at hN
      exact hN (_, _)
    · rw [if_neg (fun h => absurd h.2 (by assumption)), List.append_nil] at hN
      exact hN (_, _)
    · rw [if_neg (by rename_i hh; rw [hh]; exact fun h => nomatch h.1), List.append_nil] at hN
      exact hN (_, _)

theorem d__law_held {P : Program} {w : World} {K : PySem.W.Frag} {mg : Str → Option Value} {base : Heap} {T : Xd} (z : Txt mg) (F__law_jumps : Fd P w K mg base (Gs K) T 1 1 "_law_jumps" ["skeleton"] [] φ__law_jumps) (F__law_way : Fd P w K mg base (Gs K) T 2 4 "_law_way" ["skeleton", "lengths", "choice", "jump"] [] φ__law_way) (W : Wr K mg "_law_held" s__law_held) : Fd P w K mg base (Gs K) T 3 2 "_law_held" ["program", "choice"] [] φ__law_held :=
  Fd.of W sc__law_held (fun _ _ _ _ _ _ us hl => match us, hl with | [_, _], _ => rfl) bk0 rfl rfl rfl (fun f cdv A outer s H E pl => b__law_held z F__law_jumps F__law_way f cdv A outer s H E pl) c__law_held φ__law_held_mono
abbrev φ__law_is_told : Spc := Det (α := Sk × List Int × List Int × List Nat × Bool) (fun (sk, ls, rs, ch, nm) => [.sh (dProg sk ls rs), .sh (.tuple (dInts ch)), .sh (.bool nm)])
  (fun (sk, ls, rs, ch, nm) => PrOk sk ls rs ∧ ch.length ≤ 100 ∧ ∀ c ∈ ch, c < 100) (fun _ => .sh (.bool true))
theorem φ__law_is_told_mono : MonoS φ__law_is_told := Det_mono
--go: ⟨(_, _, _, _, _), rfl, ⟨by assumption, by omega, by assumption⟩, ?_⟩

def w__law_is_told_4 : WS := seqS (retS (primW pEq (seqA [ofE (primW pRepr (seqA [ofE (lstE (seqA [ofE (varE 0), ofE (varE 1)]))])), vwG 3]))) nxS
def w__law_is_told_3a0 : WS := seqS (retS (conE (.bool false))) nxS
def w__law_is_told_3 : WS := seqS (ifS (orT (valT (primW pNe (seqA [ofE (primW pRepr (seqA [vwG 5])), ofE (primW pRepr (seqA [ofE (lstE (seqA [ofE (varE 4), ofE (primW pEq (seqA [vwG 4, ofE (tupE (seqA []))]))]))]))]))) (valT (primW pNe (seqA [ofE (primW pRepr (seqA [ofE (callW φ_stuck (seqA [ofE (varE 0), ofE (varE 1)]))])), ofE (primW pRepr (seqA [vwG 4]))])))) (w__law_is_told_3a0) (nxS)) w__law_is_told_4
def w__law_is_told_2a0 : WS := seqS (asgS 5 (lstE (seqA [ofE (callW φ_stuck (permA ["program", "choice"] ["choice", "program"] (seqA [ofE (varE 1), ofE (varE 0)]))), ofE (callW φ_serves (permA ["program", "choice"] ["choice", "program"] (seqA [ofE (varE 1), ofE (varE 0)])))]))) nxS
def w__law_is_told_2 : WS := seqS (ifS (valT (varE 2)) (w__law_is_told_2a0) (nxS)) w__law_is_told_3
def w__law_is_told_1 : WS := seqS (asgS 5 (lstE (seqA [ofE (callW φ_stuck (seqA [ofE (varE 0), ofE (varE 1)])), ofE (callW φ_serves (seqA [ofE (varE 0), ofE (varE 1)]))]))) w__law_is_told_2
def w__law_is_told : WS := seqS (parS2 3 4 (primW pRepr (seqA [ofE (lstE (seqA [ofE (varE 0), ofE (varE 1)]))])) (callW φ__law_held (seqA [ofE (varE 0), ofE (varE 1)]))) w__law_is_told_1
theorem b__law_is_told {P : Program} {w : World} {K : PySem.W.Frag} {mg : Str → Option Value} {base : Heap} {G : Wd} {T : Xd} (z : Txt mg) (F__law_held : Fd P w K mg base G T 3 2 "_law_held" ["program", "choice"] [] φ__law_held) (F_stuck : Fd P w K mg base G T 3 2 "stuck" ["program", "choice"] [["choice", "program"]] φ_stuck) (F_serves : Fd P w K mg base G T 4 2 "serves" ["program", "choice"] [["choice", "program"]] φ_serves) (f : Addr) (cdv : Value) (A : Around) (outer : List Env) (s : Shared) (H : Hp) (E : XK) (pl : Plc G 4 (fun cls d _ H => E cls d H) (cxD P w K mg base ["program", "choice", "is_named", "known", "due", "told"] "_law_is_told" (defScope s__law_is_told) f cdv A outer s H E)) :
    Bs G T (fun cls d _ H => E cls d H) (cxD P w K mg base ["program", "choice", "is_named", "known", "due", "told"] "_law_is_told" (defScope s__law_is_told) f cdv A outer s H E) (defBody s__law_is_told) w__law_is_told :=
  (bC (sPar2 3 4 pl sc__law_is_told.nd (bRepr pl z.repr (aC (eLst (aC (vE 0).g (aC (vE 1).g aN))).g aN)) (eF pl F__law_held (ha := (aC (vE 0).g (aC (vE 1).g aN))))) (bC (sAsg 5 sc__law_is_told.nd (eLst (aC (eF pl F_stuck (ha := (aC (vE 0).g (aC (vE 1).g aN)))).g (aC (eF pl F_serves (ha := (aC (vE 0).g (aC (vE 1).g aN)))).g aN)))) (bC (sIf (tVal (vE 2)) (bC (sAsg 5 sc__law_is_told.nd (eLst (aC (eK ["choice", "program"] pl F_stuck (ha := (kkC (vE 1).g (kkC (vE 0).g kkN)))).g (aC (eK ["choice", "program"] pl F_serves (ha := (kkC (vE 1).g (kkC (vE 0).g kkN)))).g aN)))) bN) bN) (bC (sIf (tBool (vOr (tCmp (cNe pl) (bRepr pl z.repr (aC (vG 5) aN)).g (bRepr pl z.repr (aC (eLst (aC (vE 4).g (aC (eCmp (cEq pl) (vG 4) (eTup aN).g).g aN))).g aN)).g) (vOr1 (tCmp (cNe pl) (bRepr pl z.repr (aC (eF pl F_stuck (ha := (aC (vE 0).g (aC (vE 1).g aN)))).g aN)).g (bRepr pl z.repr (aC (vG 4) aN)).g)))) (bC (sRet kB) bN) bN) (bC (sRet (eCmp (cEq pl) (bRepr pl z.repr (aC (eLst (aC (vE 0).g (aC (vE 1).g aN))).g aN)).g (vG 3))) bN)))))
theorem stuck_nice {sk : Sk} {ls rs : List Int} {ch : List Nat} (hs : SkOk sk) : Nice (.tuple (dInts (stuckOf sk ls rs ch))) 1 4200 := by
  refine dInts_nice (fun c hc => ?_) (Nat.le_trans stuck_sub.length_le (by have := jumps24 hs; omega))
  have := jump_lt hs stuck_sub c hc
  omega
theorem c__law_is_told (as : List Sl) (Q : R → List Sl → Prop) (E : Exc → List Sl → Prop) (h : φ__law_is_told as Q E) : body 3 w__law_is_told as Q E := by
  obtain ⟨⟨sk, ls, rs, ch, nm⟩, rfl, ⟨hp, hn, hc⟩, q⟩ := h
  dsimp only at q ⊢
  have hs := hp.ok
  have hll := hp.ll
  have n1 : Nice (.list [dProg sk ls rs, .tuple (dInts ch)]) 5 200000 := (Nice.two (prog_nice hp) ((dInts_nice (fun c h => by have := hc c h; omega) hn).le (by decide) (by decide))).le (by decide) (by decide)
  have n2 : Nice (.tuple (dInts (stuckOf sk ls rs ch))) 1 4200 := stuck_nice hp.ok
  have n3 : Nice (.list [.tuple (dInts (stuckOf sk ls rs ch)), .bool (stuckOf sk ls rs ch).isEmpty]) 5 200000 := (Nice.two n2 (Nice.bool.le (by decide) (by decide))).le (by decide) (by decide)
  (repeat' ((fail_if_success (with_reducible refine ForI.stop ?_)); (fail_if_success (with_reducible refine CompI.stop ?_)); (fail_if_success (with_reducible refine whileI.stop ?_)); first | ((with_reducible refine (id : φ_serves _ _ _ → φ_serves _ _ _) ?_); first | refine ⟨(_, _, _, _, _), rfl, ⟨by assumption, by omega, by first | exact .inl rfl | exact .inr rfl | assumption, by omega⟩, ?_⟩ | refine ⟨(_, _, _, _, _), rfl, ⟨(‹PrOk _ _ _›).ok, by have := (‹PrOk _ _ _›).ll; omega, by first | exact .inl rfl | exact .inr rfl | assumption, by omega⟩, ?_⟩ | fail) | ((with_reducible refine (id : φ_stuck _ _ _ → φ_stuck _ _ _) ?_); first | refine ⟨(_, _, _, _, _), rfl, ⟨by assumption, by omega, by first | exact .inl rfl | exact .inr rfl | assumption, by omega⟩, ?_⟩ | refine ⟨(_, _, _, _, _), rfl, ⟨(‹PrOk _ _ _›).ok, by have := (‹PrOk _ _ _›).ll; omega, by first | exact .inl rfl | exact .inr rfl | assumption, by omega⟩, ?_⟩ | fail) | ((with_reducible refine (id : φ__law_held _ _ _ → φ__law_held _ _ _) ?_); first | refine ⟨(_, _, _, _, _), rfl, ⟨by assumption, by omega, by first | exact .inl rfl | exact .inr rfl | assumption, by omega⟩, ?_⟩ | refine ⟨(_, _, _, _, _), rfl, ⟨(‹PrOk _ _ _›).ok, by have := (‹PrOk _ _ _›).ll; omega, by first | exact .inl rfl | exact .inr rfl | assumption, by omega⟩, ?_⟩ | fail) | ((with_reducible refine (id : pEq _ _ → pEq _ _) ?_); first | refine pEq_strT ?_ | refine pEq_int ?_ | refine pEq_str ?_ | refine pEq_nils ?_ | refine pEq_nilt ?_ | fail) | ((with_reducible refine (id : pNe _ _ → pNe _ _) ?_); first | refine pNe_strF ?_ | refine pNe_int ?_ | refine pNe_str ?_ | refine pNe_nils ?_ | refine pNe_nilt ?_ | fail) | ((with_reducible refine (id : pLt _ _ → pLt _ _) ?_); first | refine pLt_int ?_ | fail) | ((with_reducible refine (id : pGt _ _ → pGt _ _) ?_); first | refine pGt_int ?_ | fail) | ((with_reducible refine (id : pLe _ _ → pLe _ _) ?_); first | refine pLe_int ?_ | fail) | ((with_reducible refine (id : pGe _ _ → pGe _ _) ?_); first | refine pGe_int ?_ | fail) | ((with_reducible refine (id : pMul _ _ → pMul _ _) ?_); first | refine ⟨.inl ⟨by omega, by omega⟩, ?_⟩ | refine ⟨.inr ⟨by omega, by omega⟩, ?_⟩ | fail) | ((with_reducible refine (id : pMod _ _ → pMod _ _) ?_); first | refine ⟨_, _, rfl, by omega, ?_⟩ | fail) | ((with_reducible refine (id : pDiv _ _ → pDiv _ _) ?_); first | refine ⟨_, _, rfl, ⟨by omega, by omega⟩, ?_⟩ | fail) | ((with_reducible refine (id : pPow _ _ → pPow _ _) ?_); first | refine ⟨_, _, rfl, ⟨by decide, by decide, by decide⟩, ?_⟩ | fail) | ((with_reducible refine (id : pSub _ _ → pSub _ _) ?_); first | refine ⟨_, _, rfl, ?_⟩ | fail) | ((with_reducible refine (id : pIx _ _ → pIx _ _) ?_); first | refine ⟨_, rfl, ?_⟩ | refine ⟨_, dSk_at (by assumption), ?_⟩ | refine ⟨_, nums_at (by omega), ?_⟩ | refine ⟨_, nats_at (by omega), ?_⟩ | refine ⟨_, nums_first (by omega), ?_⟩ | refine ⟨_, nums_last (by omega), ?_⟩ | fail) | ((with_reducible refine (id : φMake _ _ _ → φMake _ _ _) ?_); first | refine ⟨_, rfl, by omega, ?_⟩ | fail) | ((with_reducible refine (id : pMax _ _ → pMax _ _) ?_); first | refine pMax2 ?_ | fail) | ((with_reducible refine (id : pMin _ _ → pMin _ _) ?_); first | refine pMin2 ?_ | fail) | ((with_reducible refine (id : pSort2 _ _ → pSort2 _ _) ?_); first | refine pSort2_l ?_ | refine pSort2_t ?_ | fail) | ((with_reducible refine (id : pRepr _ _ → pRepr _ _) ?_); first | refine Nice.rp (by assumption) (by decide) (by decide) ?_ | refine (Nice.int (by omega) (by omega)).rp (by decide) (by decide) ?_ | fail) | ((with_reducible refine (id : pSl _ _ → pSl _ _) ?_); first | refine ⟨_, _, rfl, rfl, ?_⟩ | fail) | ((with_reducible refine (id : pIn _ _ → pIn _ _) ?_); first | refine pIn_row (by first | exact .inl rfl | exact .inr rfl | assumption) ?_ | fail) | ((with_reducible refine (id : pNin _ _ → pNin _ _) ?_); first | refine pNin_row (by first | exact .inl rfl | exact .inr rfl | assumption) ?_ | fail) | ((with_reducible refine (id : φDraw _ _ _ → φDraw _ _ _) ?_); first | refine ⟨_, rfl, by first | decide | omega, by first | decide | omega, fun i hi => ?_⟩ | fail) | (refine ⟨(rfl : ltB _ _), ?_⟩; try dsimp only [upds, putBack, backSl, wipeS, keepS, List.set_cons_zero, List.set_cons_succ, getD_s, getD_z, List.cons_append, List.nil_append, List.replicate, List.reduceReplicate, R.sl]) | ((with_reducible refine (id : @ite _ _ _ _ _ → @ite _ _ _ _ _) ?_); first | refine iteT rfl ?_ | refine iteF rfl ?_ | refine iteB (fun hh => ?_) (fun hh => ?_) | refine iteb (fun hh => ?_) (fun hh => ?_) | fail) | ((fail_if_success (with_reducible refine (id : pEq _ _ → pEq _ _) ?_)); (fail_if_success (with_reducible refine (id : pNe _ _ → pNe _ _) ?_)); (fail_if_success (with_reducible refine (id : pLt _ _ → pLt _ _) ?_)); (fail_if_success (with_reducible refine (id : pGt _ _ → pGt _ _) ?_)); (fail_if_success (with_reducible refine (id : pLe _ _ → pLe _ _) ?_)); (fail_if_success (with_reducible refine (id : pGe _ _ → pGe _ _) ?_)); (fail_if_success (with_reducible refine (id : pMul _ _ → pMul _ _) ?_)); (fail_if_success (with_reducible refine (id : pMod _ _ → pMod _ _) ?_)); (fail_if_success (with_reducible refine (id : pDiv _ _ → pDiv _ _) ?_)); (fail_if_success (with_reducible refine (id : pPow _ _ → pPow _ _) ?_)); (fail_if_success (with_reducible refine (id : pSub _ _ → pSub _ _) ?_)); (fail_if_success (with_reducible refine (id : pIx _ _ → pIx _ _) ?_)); (fail_if_success (with_reducible refine (id : φMake _ _ _ → φMake _ _ _) ?_)); (fail_if_success (with_reducible refine (id : pMax _ _ → pMax _ _) ?_)); (fail_if_success (with_reducible refine (id : pMin _ _ → pMin _ _) ?_)); (fail_if_success (with_reducible refine (id : pSort2 _ _ → pSort2 _ _) ?_)); (fail_if_success (with_reducible refine (id : pRepr _ _ → pRepr _ _) ?_)); (fail_if_success (with_reducible refine (id : pSl _ _ → pSl _ _) ?_)); (fail_if_success (with_reducible refine (id : pIn _ _ → pIn _ _) ?_)); (fail_if_success (with_reducible refine (id : pNin _ _ → pNin _ _) ?_)); (fail_if_success (with_reducible refine (id : φDraw _ _ _ → φDraw _ _ _) ?_)); (fail_if_success (with_reducible refine (id : φ__law_held _ _ _ → φ__law_held _ _ _) ?_)); (fail_if_success (with_reducible refine (id : φ_stuck _ _ _ → φ_stuck _ _ _) ?_)); (fail_if_success (with_reducible refine (id : φ_serves _ _ _ → φ_serves _ _ _) ?_)); first | refine ⟨rfl, ?_⟩ | refine ⟨_, rfl, ?_⟩ | refine ⟨_, rfl, rfl, ?_⟩ | refine ⟨_, _, rfl, ?_⟩ | refine ⟨_, _, rfl, rfl, ?_⟩ | refine ⟨⟨_, _, rfl⟩, ?_⟩ | refine ⟨_, _, _, rfl, rfl, ?_⟩ | refine ⟨_, _, _, rfl, ?_⟩ | refine And.intro (by omega) ?_ | refine And.intro ⟨by omega, by omega⟩ ?_ | refine And.intro (by assumption) ?_ | refine And.intro (sz (by first | omega | (simp only [List.length_append, List.length_cons, List.length_nil, List.length_map, dInts_len, List.length_set]; omega))) ?_ | refine And.intro (szl (by first | omega | (simp only [List.length_append, List.length_cons, List.length_nil, List.length_map, dInts_len, List.length_set]; omega))) ?_ | fail) | fail))
  all_goals exact q

theorem d__law_is_told {P : Program} {w : World} {K : PySem.W.Frag} {mg : Str → Option Value} {base : Heap} {T : Xd} (z : Txt mg) (F__law_held : Fd P w K mg base (Gs K) T 3 2 "_law_held" ["program", "choice"] [] φ__law_held) (F_stuck : Fd P w K mg base (Gs K) T 3 2 "stuck" ["program", "choice"] [["choice", "program"]] φ_stuck) (F_serves : Fd P w K mg base (Gs K) T 4 2 "serves" ["program", "choice"] [["choice", "program"]] φ_serves) (W : Wr K mg "_law_is_told" s__law_is_told) : Fd P w K mg base (Gs K) T 5 3 "_law_is_told" ["program", "choice", "is_named"] [] φ__law_is_told :=
  Fd.of W sc__law_is_told (fun _ _ _ _ _ _ us hl => match us, hl with | [_, _, _], _ => rfl) bk0 rfl rfl rfl (fun f cdv A outer s H E pl => b__law_is_told z F__law_held F_stuck F_serves f cdv A outer s H E pl) c__law_is_told φ__law_is_told_mono
abbrev φ__law_is_just : Spc := Det (α := Sk × List Int × List Int × List Nat) (fun (sk, ls, rs, ch) => [.pot true, .sh (dProg sk ls rs), .sh (.tuple (dInts ch))])
  (fun (sk, ls, rs, ch) => PrOk sk ls rs ∧ ch.length ≤ 100 ∧ ∀ c ∈ ch, c < 100) (fun _ => .sh (.bool true))
theorem φ__law_is_just_mono : MonoS φ__law_is_just := Det_mono
--go: ⟨(_, _, _, _), rfl, ⟨by assumption, by omega, by assumption⟩, ?_⟩

def w__law_is_just_11 : WS := seqS (retS (primW pEq (seqA [ofE (primW pRepr (seqA [vwG 13])), ofE (primW pRepr (seqA [ofE (lstE (seqA [ofE (tupE (seqA [ofE (primW pIx (seqA [vwG 6, vwG 9]))])), ofE (conE (.bool false))]))]))]))) nxS
def w__law_is_just_10 : WS := seqS (asgS 13 (lstE (seqA [ofE (callW φ_stuck (seqA [ofE (tupE (seqA [ofE (varE 3), ofE (varE 4), ofE (varE 12)])), ofE (varE 2)])), ofE (callW φ_serves (seqA [ofE (tupE (seqA [ofE (varE 3), ofE (varE 4), ofE (varE 12)])), ofE (varE 2)]))]))) w__law_is_just_11
def w__law_is_just_9 : WS := seqS (asgS 12 (primW pTup (seqA [ofE (primW pAdd (seqA [ofE (primW pAdd (seqA [ofE (primW pSl (seqA [vwG 8, partG none, partG (some (varE 9))])), ofE (lstE (seqA [ofE (primW pSub (seqA [ofE (primW pIx (seqA [vwG 8, vwG 9])), ofE (conE (.int 1))]))]))])), ofE (primW pSl (seqA [vwG 8, partG (some (primW pAdd (seqA [vwG 9, ofE (conE (.int 1))]))), partG none]))]))]))) w__law_is_just_10
def w__law_is_just_8a0 : WS := seqS (retS (conE (.bool true))) nxS
def w__law_is_just_8 : WS := seqS (ifS (orT (valT (primW pIn (seqA [ofE (primW pIx (seqA [vwG 6, vwG 9])), vwG 2]))) (valT (primW pEq (seqA [ofE (primW pIx (seqA [vwG 8, vwG 9])), ofE (conE (.int 0))])))) (w__law_is_just_8a0) (nxS)) w__law_is_just_9
def w__law_is_just_7a0 : WS := seqS (retS (conE (.bool false))) nxS
def w__law_is_just_7 : WS := seqS (ifS (valT (primW pNotB (seqA [ofE (callW φ_serves (seqA [ofE (tupE (seqA [ofE (varE 3), ofE (varE 4), ofE (varE 11)])), ofE (varE 2)])), ofE (conE (.bool true))]))) (w__law_is_just_7a0) (nxS)) w__law_is_just_8
def w__law_is_just_6 : WS := seqS (asgS 11 (primW pTup (seqA [ofE (compI (seqI (vwG 8)) [10] (nameT 10) (yesT) (primW pAdd (seqA [vwG 10, ofE (primW pMul (seqA [ofE (callW φ__law_draw (seqA [vwG 0, ofE (conE (.int 3))])), ofE (primW pInt (seqA [ofE (primW pLt (seqA [vwG 10, ofE (primW pPow (seqA [ofE (conE (.int 10)), ofE (conE (.int 8))]))]))]))]))])))]))) w__law_is_just_7
def w__law_is_just_5 : WS := seqS (asgS 9 (callW φ__law_draw (seqA [vwG 0, ofE (primW pLen (seqA [vwG 6]))]))) w__law_is_just_6
def w__law_is_just_4a0 : WS := seqS (retS (conE (.bool false))) nxS
def w__law_is_just_4 : WS := seqS (ifS (valT (primW pNotB (seqA [ofE (callW φ_serves (seqA [ofE (tupE (seqA [ofE (varE 3), ofE (varE 4), ofE (primW pTup (seqA [vwG 8]))])), ofE (varE 2)])), ofE (conE (.bool true))]))) (w__law_is_just_4a0) (nxS)) w__law_is_just_5
def w__law_is_just_3a0 : WS := seqS (retS (conE (.bool true))) nxS
def w__law_is_just_3 : WS := seqS (ifS (orT (valT (primW pEq (seqA [vwG 6, ofE (lstE (seqA []))]))) (valT (primW pGt (seqA [ofE (primW pMax (seqA [vwG 8])), ofE (primW pPow (seqA [ofE (conE (.int 10)), ofE (conE (.int 9))]))])))) (w__law_is_just_3a0) (nxS)) w__law_is_just_4
def w__law_is_just_2 : WS := seqS (asgS 8 (compI (seqI (vwG 6)) [7] (nameT 7) (yesT) (callW φ__law_way (seqA [ofE (varE 3), ofE (varE 4), ofE (varE 2), ofE (varE 7)])))) w__law_is_just_3
def w__law_is_just_1 : WS := seqS (asgS 6 (callW φ__law_jumps (seqA [ofE (varE 3)]))) w__law_is_just_2
def w__law_is_just : WS := seqS (unpS [3, 4, 5] (varE 1)) w__law_is_just_1
theorem b__law_is_just {P : Program} {w : World} {K : PySem.W.Frag} {mg : Str → Option Value} {base : Heap} {G : Wd} {T : Xd} (z : Txt mg) (F__law_jumps : Fd P w K mg base G T 1 1 "_law_jumps" ["skeleton"] [] φ__law_jumps) (F__law_draw : Fd P w K mg base G T 1 2 "_law_draw" ["stock", "size"] [] φ__law_draw) (F__law_way : Fd P w K mg base G T 2 4 "_law_way" ["skeleton", "lengths", "choice", "jump"] [] φ__law_way) (F_serves : Fd P w K mg base G T 4 2 "serves" ["program", "choice"] [["choice", "program"]] φ_serves) (F_stuck : Fd P w K mg base G T 3 2 "stuck" ["program", "choice"] [["choice", "program"]] φ_stuck) (f : Addr) (cdv : Value) (A : Around) (outer : List Env) (s : Shared) (H : Hp) (E : XK) (pl : Plc G 4 (fun cls d _ H => E cls d H) (cxD P w K mg base ["stock", "program", "choice", "skeleton", "lengths", "reaches", "jumps", "jump", "ways", "spot", "way", "more", "fewer", "told"] "_law_is_just" (defScope s__law_is_just) f cdv A outer s H E)) :
    Bs G T (fun cls d _ H => E cls d H) (cxD P w K mg base ["stock", "program", "choice", "skeleton", "lengths", "reaches", "jumps", "jump", "ways", "spot", "way", "more", "fewer", "told"] "_law_is_just" (defScope s__law_is_just) f cdv A outer s H E) (defBody s__law_is_just) w__law_is_just :=
  (bC (sUnp (gT pl (gsC (gN 3 sc__law_is_just.nd) (gsC (gN 4 sc__law_is_just.nd) (gsC (gN 5 sc__law_is_just.nd) gsN)))) (vE 1)) (bC (sAsg 6 sc__law_is_just.nd (eF pl F__law_jumps (ha := (aC (vE 3).g aN)))) (bC (sComp 8 [("jump", 7)] pl sc__law_is_just.nd (iSeqI pl (vG 6)) (fun s H C cl fp pl => ⟨(gN 7 sc__law_is_just.nd), tsN, (eF pl F__law_way (ha := (aC (vE 3).g (aC (vE 4).g (aC (vE 2).g (aC (vE 7).g aN))))))⟩)) (bC (sIf (tBool (vOr (tCmp (cEq pl) (vG 6) (eLst aN).g) (vOr1 (tCmp (cGt pl) (bMax pl z.max (aC (vG 8) aN)).g (bPow kI.g kI.g).g)))) (bC (sRet kB) bN) bN) (bC (sIf (tCmp (cNotB pl) (eF pl F_serves (ha := (aC (eTup (aC (vE 3).g (aC (vE 4).g (aC (bTup pl z.tuple (aC (vG 8) aN)).g aN)))).g (aC (vE 2).g aN)))).g kB.g) (bC (sRet kB) bN) bN) (bC (sAsg 9 sc__law_is_just.nd (eF pl F__law_draw (ha := (aC (vG 0) (aC (bLen z.len (aC (vG 6) aN)).g aN))))) (bC (sAsg 11 sc__law_is_just.nd (bTup pl z.tuple (aC (eComp [("way", 10)] pl sc__law_is_just.nd (iSeqI pl (vG 8)) (fun s H C cl fp pl => ⟨(gN 10 sc__law_is_just.nd), tsN, (bAdd pl (vG 10) (bMul (eF pl F__law_draw (ha := (aC (vG 0) (aC kI.g aN)))).g (bInt z.int (aC (eCmp (cLt pl) (vG 10) (bPow kI.g kI.g).g).g aN)).g).g)⟩)).g aN))) (bC (sIf (tCmp (cNotB pl) (eF pl F_serves (ha := (aC (eTup (aC (vE 3).g (aC (vE 4).g (aC (vE 11).g aN)))).g (aC (vE 2).g aN)))).g kB.g) (bC (sRet kB) bN) bN) (bC (sIf (tBool (vOr (tCmp (cIn pl) (ixE pl (vG 6) (vG 9)).g (vG 2)) (vOr1 (tCmp (cEq pl) (ixE pl (vG 8) (vG 9)).g kI.g)))) (bC (sRet kB) bN) bN) (bC (sAsg 12 sc__law_is_just.nd (bTup pl z.tuple (aC (bAdd pl (bAdd pl (slE pl (vG 8) oN (oS (vE 9))).g (eLst (aC (bSub (ixE pl (vG 8) (vG 9)).g kI.g).g aN)).g).g (slE pl (vG 8) (oS (bAdd pl (vG 9) kI.g)) oN).g).g aN))) (bC (sAsg 13 sc__law_is_just.nd (eLst (aC (eF pl F_stuck (ha := (aC (eTup (aC (vE 3).g (aC (vE 4).g (aC (vE 12).g aN)))).g (aC (vE 2).g aN)))).g (aC (eF pl F_serves (ha := (aC (eTup (aC (vE 3).g (aC (vE 4).g (aC (vE 12).g aN)))).g (aC (vE 2).g aN)))).g aN)))) (bC (sRet (eCmp (cEq pl) (bRepr pl z.repr (aC (vG 13) aN)).g (bRepr pl z.repr (aC (eLst (aC (eTup (aC (ixE pl (vG 6) (vG 9)).g aN)).g (aC kB.g aN))).g aN)).g)) bN))))))))))))
theorem c__law_is_just (as : List Sl) (Q : R → List Sl → Prop) (E : Exc → List Sl → Prop) (h : φ__law_is_just as Q E) : body 11 w__law_is_just as Q E := by
  obtain ⟨⟨sk, ls, rs, ch⟩, rfl, ⟨hp, hn, hc⟩, q⟩ := h
  dsimp only at q ⊢
  have hs := hp.ok
  have jl := jumps24 hs
  have hll := hp.ll
  have e9 : (10 : Int) ^ (Int.toNat 9) = 1000000000 := by decide
  have e8 : (10 : Int) ^ (Int.toNat 8) = 100000000 := by decide
  (repeat' ((fail_if_success (with_reducible refine ForI.stop ?_)); (fail_if_success (with_reducible refine CompI.stop ?_)); (fail_if_success (with_reducible refine whileI.stop ?_)); first | ((with_reducible refine (id : φ_stuck _ _ _ → φ_stuck _ _ _) ?_); first | refine ⟨(_, _, _, _, _), rfl, ⟨by assumption, by omega, by first | exact .inl rfl | exact .inr rfl | assumption, by omega⟩, ?_⟩ | refine ⟨(_, _, _, _, _), rfl, ⟨(‹PrOk _ _ _›).ok, by have := (‹PrOk _ _ _›).ll; omega, by first | exact .inl rfl | exact .inr rfl | assumption, by omega⟩, ?_⟩ | fail) | ((with_reducible refine (id : φ_serves _ _ _ → φ_serves _ _ _) ?_); first | refine ⟨(_, _, _, _, _), rfl, ⟨by assumption, by omega, by first | exact .inl rfl | exact .inr rfl | assumption, by omega⟩, ?_⟩ | refine ⟨(_, _, _, _, _), rfl, ⟨(‹PrOk _ _ _›).ok, by have := (‹PrOk _ _ _›).ll; omega, by first | exact .inl rfl | exact .inr rfl | assumption, by omega⟩, ?_⟩ | fail) | ((with_reducible refine (id : φ__law_way _ _ _ → φ__law_way _ _ _) ?_); first | refine φ__law_way_go (by assumption) (by assumption) (by first | exact .inl rfl | exact .inr rfl | assumption) (by omega) (by omega) ?_ | fail) | ((with_reducible refine (id : φ__law_jumps _ _ _ → φ__law_jumps _ _ _) ?_); first | refine ⟨_, rfl, by have := (‹SkOk _›).1; omega, ?_⟩ | fail) | ((with_reducible refine (id : pEq _ _ → pEq _ _) ?_); first | refine pEq_strT ?_ | refine pEq_int ?_ | refine pEq_str ?_ | refine pEq_nils ?_ | refine pEq_nilt ?_ | fail) | ((with_reducible refine (id : pNe _ _ → pNe _ _) ?_); first | refine pNe_strF ?_ | refine pNe_int ?_ | refine pNe_str ?_ | refine pNe_nils ?_ | refine pNe_nilt ?_ | fail) | ((with_reducible refine (id : pLt _ _ → pLt _ _) ?_); first | refine pLt_int ?_ | fail) | ((with_reducible refine (id : pGt _ _ → pGt _ _) ?_); first | refine pGt_int ?_ | fail) | ((with_reducible refine (id : pLe _ _ → pLe _ _) ?_); first | refine pLe_int ?_ | fail) | ((with_reducible refine (id : pGe _ _ → pGe _ _) ?_); first | refine pGe_int ?_ | fail) | ((with_reducible refine (id : pMul _ _ → pMul _ _) ?_); first | refine ⟨.inl ⟨by omega, by omega⟩, ?_⟩ | refine ⟨.inr ⟨by omega, by omega⟩, ?_⟩ | fail) | ((with_reducible refine (id : pMod _ _ → pMod _ _) ?_); first | refine ⟨_, _, rfl, by omega, ?_⟩ | fail) | ((with_reducible refine (id : pDiv _ _ → pDiv _ _) ?_); first | refine ⟨_, _, rfl, ⟨by omega, by omega⟩, ?_⟩ | fail) | ((with_reducible refine (id : pPow _ _ → pPow _ _) ?_); first | refine ⟨_, _, rfl, ⟨by decide, by decide, by decide⟩, ?_⟩ | fail) | ((with_reducible refine (id : pSub _ _ → pSub _ _) ?_); first | refine ⟨_, _, rfl, ?_⟩ | fail) | ((with_reducible refine (id : pIx _ _ → pIx _ _) ?_); first | refine ⟨_, rfl, ?_⟩ | refine ⟨_, dSk_at (by assumption), ?_⟩ | refine ⟨_, nums_at (by omega), ?_⟩ | refine ⟨_, nats_at (by omega), ?_⟩ | refine ⟨_, nums_first (by omega), ?_⟩ | refine ⟨_, nums_last (by omega), ?_⟩ | fail) | ((with_reducible refine (id : φMake _ _ _ → φMake _ _ _) ?_); first | refine ⟨_, rfl, by omega, ?_⟩ | fail) | ((with_reducible refine (id : pMax _ _ → pMax _ _) ?_); first | refine pMax2 ?_ | fail) | ((with_reducible refine (id : pMin _ _ → pMin _ _) ?_); first | refine pMin2 ?_ | fail) | ((with_reducible refine (id : pSort2 _ _ → pSort2 _ _) ?_); first | refine pSort2_l ?_ | refine pSort2_t ?_ | fail) | ((with_reducible refine (id : pRepr _ _ → pRepr _ _) ?_); first | refine Nice.rp (by assumption) (by decide) (by decide) ?_ | refine (Nice.int (by omega) (by omega)).rp (by decide) (by decide) ?_ | fail) | ((with_reducible refine (id : pSl _ _ → pSl _ _) ?_); first | refine ⟨_, _, rfl, rfl, ?_⟩ | fail) | ((with_reducible refine (id : pIn _ _ → pIn _ _) ?_); first | refine pIn_row (by first | exact .inl rfl | exact .inr rfl | assumption) ?_ | fail) | ((with_reducible refine (id : pNin _ _ → pNin _ _) ?_); first | refine pNin_row (by first | exact .inl rfl | exact .inr rfl | assumption) ?_ | fail) | ((with_reducible refine (id : φDraw _ _ _ → φDraw _ _ _) ?_); first | refine ⟨_, rfl, by first | decide | omega, by first | decide | omega, fun i hi => ?_⟩ | fail) | (refine ⟨(rfl : ltB _ _), ?_⟩; try dsimp only [upds, putBack, backSl, wipeS, keepS, List.set_cons_zero, List.set_cons_succ, getD_s, getD_z, List.cons_append, List.nil_append, List.replicate, List.reduceReplicate, R.sl]) | ((with_reducible refine (id : @ite _ _ _ _ _ → @ite _ _ _ _ _) ?_); first | refine iteT rfl ?_ | refine iteF rfl ?_ | refine iteB (fun hh => ?_) (fun hh => ?_) | refine iteb (fun hh => ?_) (fun hh => ?_) | fail) | ((fail_if_success (with_reducible refine (id : pEq _ _ → pEq _ _) ?_)); (fail_if_success (with_reducible refine (id : pNe _ _ → pNe _ _) ?_)); (fail_if_success (with_reducible refine (id : pLt _ _ → pLt _ _) ?_)); (fail_if_success (with_reducible refine (id : pGt _ _ → pGt _ _) ?_)); (fail_if_success (with_reducible refine (id : pLe _ _ → pLe _ _) ?_)); (fail_if_success (with_reducible refine (id : pGe _ _ → pGe _ _) ?_)); (fail_if_success (with_reducible refine (id : pMul _ _ → pMul _ _) ?_)); (fail_if_success (with_reducible refine (id : pMod _ _ → pMod _ _) ?_)); (fail_if_success (with_reducible refine (id : pDiv _ _ → pDiv _ _) ?_)); (fail_if_success (with_reducible refine (id : pPow _ _ → pPow _ _) ?_)); (fail_if_success (with_reducible refine (id : pSub _ _ → pSub _ _) ?_)); (fail_if_success (with_reducible refine (id : pIx _ _ → pIx _ _) ?_)); (fail_if_success (with_reducible refine (id : φMake _ _ _ → φMake _ _ _) ?_)); (fail_if_success (with_reducible refine (id : pMax _ _ → pMax _ _) ?_)); (fail_if_success (with_reducible refine (id : pMin _ _ → pMin _ _) ?_)); (fail_if_success (with_reducible refine (id : pSort2 _ _ → pSort2 _ _) ?_)); (fail_if_success (with_reducible refine (id : pRepr _ _ → pRepr _ _) ?_)); (fail_if_success (with_reducible refine (id : pSl _ _ → pSl _ _) ?_)); (fail_if_success (with_reducible refine (id : pIn _ _ → pIn _ _) ?_)); (fail_if_success (with_reducible refine (id : pNin _ _ → pNin _ _) ?_)); (fail_if_success (with_reducible refine (id : φDraw _ _ _ → φDraw _ _ _) ?_)); (fail_if_success (with_reducible refine (id : φ__law_jumps _ _ _ → φ__law_jumps _ _ _) ?_)); (fail_if_success (with_reducible refine (id : φ__law_way _ _ _ → φ__law_way _ _ _) ?_)); (fail_if_success (with_reducible refine (id : φ_serves _ _ _ → φ_serves _ _ _) ?_)); (fail_if_success (with_reducible refine (id : φ_stuck _ _ _ → φ_stuck _ _ _) ?_)); first | refine ⟨rfl, ?_⟩ | refine ⟨_, rfl, ?_⟩ | refine ⟨_, rfl, rfl, ?_⟩ | refine ⟨_, _, rfl, ?_⟩ | refine ⟨_, _, rfl, rfl, ?_⟩ | refine ⟨⟨_, _, rfl⟩, ?_⟩ | refine ⟨_, _, _, rfl, rfl, ?_⟩ | refine ⟨_, _, _, rfl, ?_⟩ | refine And.intro (by omega) ?_ | refine And.intro ⟨by omega, by omega⟩ ?_ | refine And.intro (by assumption) ?_ | refine And.intro (sz (by first | omega | (simp only [List.length_append, List.length_cons, List.length_nil, List.length_map, dInts_len, List.length_set]; omega))) ?_ | refine And.intro (szl (by first | omega | (simp only [List.length_append, List.length_cons, List.length_nil, List.length_map, dInts_len, List.length_set]; omega))) ?_ | fail) | fail))
  refine comp_map (fun n : Nat => .int n) .int (jumpsOf 0 sk) (wayAt sk ls ch) rfl ⟨⟨_, rfl⟩, trivial⟩ ?_ ?_
  · intro j hj K k
    obtain ⟨g, b, l, h1⟩ := jump_at hj
    have e : wayAt sk ls ch j = wayOf sk ls ch j g := by unfold wayAt; rw [goal_at h1]
    rw [e] at k
    (repeat' ((fail_if_success (with_reducible refine ForI.stop ?_)); (fail_if_success (with_reducible refine CompI.stop ?_)); (fail_if_success (with_reducible refine whileI.stop ?_)); first | ((with_reducible refine (id : φ_stuck _ _ _ → φ_stuck _ _ _) ?_); first | refine ⟨(_, _, _, _, _), rfl, ⟨by assumption, by omega, by first | exact .inl rfl | exact .inr rfl | assumption, by omega⟩, ?_⟩ | refine ⟨(_, _, _, _, _), rfl, ⟨(‹PrOk _ _ _›).ok, by have := (‹PrOk _ _ _›).ll; omega, by first | exact .inl rfl | exact .inr rfl | assumption, by omega⟩, ?_⟩ | fail) | ((with_reducible refine (id : φ_serves _ _ _ → φ_serves _ _ _) ?_); first | refine ⟨(_, _, _, _, _), rfl, ⟨by assumption, by omega, by first | exact .inl rfl | exact .inr rfl | assumption, by omega⟩, ?_⟩ | refine ⟨(_, _, _, _, _), rfl, ⟨(‹PrOk _ _ _›).ok, by have := (‹PrOk _ _ _›).ll; omega, by first | exact .inl rfl | exact .inr rfl | assumption, by omega⟩, ?_⟩ | fail) | ((with_reducible refine (id : φ__law_way _ _ _ → φ__law_way _ _ _) ?_); first | refine φ__law_way_go (by assumption) (by assumption) (by first | exact .inl rfl | exact .inr rfl | assumption) (by omega) (by omega) ?_ | fail) | ((with_reducible refine (id : φ__law_jumps _ _ _ → φ__law_jumps _ _ _) ?_); first | refine ⟨_, rfl, by have := (‹SkOk _›).1; omega, ?_⟩ | fail) | ((with_reducible refine (id : pEq _ _ → pEq _ _) ?_); first | refine pEq_strT ?_ | refine pEq_int ?_ | refine pEq_str ?_ | refine pEq_nils ?_ | refine pEq_nilt ?_ | fail) | ((with_reducible refine (id : pNe _ _ → pNe _ _) ?_); first | refine pNe_strF ?_ | refine pNe_int ?_ | refine pNe_str ?_ | refine pNe_nils ?_ | refine pNe_nilt ?_ | fail) | ((with_reducible refine (id : pLt _ _ → pLt _ _) ?_); first | refine pLt_int ?_ | fail) | ((with_reducible refine (id : pGt _ _ → pGt _ _) ?_); first | refine pGt_int ?_ | fail) | ((with_reducible refine (id : pLe _ _ → pLe _ _) ?_); first | refine pLe_int ?_ | fail) | ((with_reducible refine (id : pGe _ _ → pGe _ _) ?_); first | refine pGe_int ?_ | fail) | ((with_reducible refine (id : pMul _ _ → pMul _ _) ?_); first | refine ⟨.inl ⟨by omega, by omega⟩, ?_⟩ | refine ⟨.inr ⟨by omega, by omega⟩, ?_⟩ | fail) | ((with_reducible refine (id : pMod _ _ → pMod _ _) ?_); first | refine ⟨_, _, rfl, by omega, ?_⟩ | fail) | ((with_reducible refine (id : pDiv _ _ → pDiv _ _) ?_); first | refine ⟨_, _, rfl, ⟨by omega, by omega⟩, ?_⟩ | fail) | ((with_reducible refine (id : pPow _ _ → pPow _ _) ?_); first | refine ⟨_, _, rfl, ⟨by decide, by decide, by decide⟩, ?_⟩ | fail) | ((with_reducible refine (id : pSub _ _ → pSub _ _) ?_); first | refine ⟨_, _, rfl, ?_⟩ | fail) | ((with_reducible refine (id : pIx _ _ → pIx _ _) ?_); first | refine ⟨_, rfl, ?_⟩ | refine ⟨_, dSk_at (by assumption), ?_⟩ | refine ⟨_, nums_at (by omega), ?_⟩ | refine ⟨_, nats_at (by omega), ?_⟩ | refine ⟨_, nums_first (by omega), ?_⟩ | refine ⟨_, nums_last (by omega), ?_⟩ | fail) | ((with_reducible refine (id : φMake _ _ _ → φMake _ _ _) ?_); first | refine ⟨_, rfl, by omega, ?_⟩ | fail) | ((with_reducible refine (id : pMax _ _ → pMax _ _) ?_); first | refine pMax2 ?_ | fail) | ((with_reducible refine (id : pMin _ _ → pMin _ _) ?_); first | refine pMin2 ?_ | fail) | ((with_reducible refine (id : pSort2 _ _ → pSort2 _ _) ?_); first | refine pSort2_l ?_ | refine pSort2_t ?_ | fail) | ((with_reducible refine (id : pRepr _ _ → pRepr _ _) ?_); first | refine Nice.rp (by assumption) (by decide) (by decide) ?_ | refine (Nice.int (by omega) (by omega)).rp (by decide) (by decide) ?_ | fail) | ((with_reducible refine (id : pSl _ _ → pSl _ _) ?_); first | refine ⟨_, _, rfl, rfl, ?_⟩ | fail) | ((with_reducible refine (id : pIn _ _ → pIn _ _) ?_); first | refine pIn_row (by first | exact .inl rfl | exact .inr rfl | assumption) ?_ | fail) | ((with_reducible refine (id : pNin _ _ → pNin _ _) ?_); first | refine pNin_row (by first | exact .inl rfl | exact .inr rfl | assumption) ?_ | fail) | ((with_reducible refine (id : φDraw _ _ _ → φDraw _ _ _) ?_); first | refine ⟨_, rfl, by first | decide | omega, by first | decide | omega, fun i hi => ?_⟩ | fail) | (refine ⟨(rfl : ltB _ _), ?_⟩; try dsimp only [upds, putBack, backSl, wipeS, keepS, List.set_cons_zero, List.set_cons_succ, getD_s, getD_z, List.cons_append, List.nil_append, List.replicate, List.reduceReplicate, R.sl]) | ((with_reducible refine (id : @ite _ _ _ _ _ → @ite _ _ _ _ _) ?_); first | refine iteT rfl ?_ | refine iteF rfl ?_ | refine iteB (fun hh => ?_) (fun hh => ?_) | refine iteb (fun hh => ?_) (fun hh => ?_) | fail) | ((fail_if_success (with_reducible refine (id : pEq _ _ → pEq _ _) ?_)); (fail_if_success (with_reducible refine (id : pNe _ _ → pNe _ _) ?_)); (fail_if_success (with_reducible refine (id : pLt _ _ → pLt _ _) ?_)); (fail_if_success (with_reducible refine (id : pGt _ _ → pGt _ _) ?_)); (fail_if_success (with_reducible refine (id : pLe _ _ → pLe _ _) ?_)); (fail_if_success (with_reducible refine (id : pGe _ _ → pGe _ _) ?_)); (fail_if_success (with_reducible refine (id : pMul _ _ → pMul _ _) ?_)); (fail_if_success (with_reducible refine (id : pMod _ _ → pMod _ _) ?_)); (fail_if_success (with_reducible refine (id : pDiv _ _ → pDiv _ _) ?_)); (fail_if_success (with_reducible refine (id : pPow _ _ → pPow _ _) ?_)); (fail_if_success (with_reducible refine (id : pSub _ _ → pSub _ _) ?_)); (fail_if_success (with_reducible refine (id : pIx _ _ → pIx _ _) ?_)); (fail_if_success (with_reducible refine (id : φMake _ _ _ → φMake _ _ _) ?_)); (fail_if_success (with_reducible refine (id : pMax _ _ → pMax _ _) ?_)); (fail_if_success (with_reducible refine (id : pMin _ _ → pMin _ _) ?_)); (fail_if_success (with_reducible refine (id : pSort2 _ _ → pSort2 _ _) ?_)); (fail_if_success (with_reducible refine (id : pRepr _ _ → pRepr _ _) ?_)); (fail_if_success (with_reducible refine (id : pSl _ _ → pSl _ _) ?_)); (fail_if_success (with_reducible refine (id : pIn _ _ → pIn _ _) ?_)); (fail_if_success (with_reducible refine (id : pNin _ _ → pNin _ _) ?_)); (fail_if_success (with_reducible refine (id : φDraw _ _ _ → φDraw _ _ _) ?_)); (fail_if_success (with_reducible refine (id : φ__law_jumps _ _ _ → φ__law_jumps _ _ _) ?_)); (fail_if_success (with_reducible refine (id : φ__law_way _ _ _ → φ__law_way _ _ _) ?_)); (fail_if_success (with_reducible refine (id : φ_serves _ _ _ → φ_serves _ _ _) ?_)); (fail_if_success (with_reducible refine (id : φ_stuck _ _ _ → φ_stuck _ _ _) ?_)); first | refine ⟨rfl, ?_⟩ | refine ⟨_, rfl, ?_⟩ | refine ⟨_, rfl, rfl, ?_⟩ | refine ⟨_, _, rfl, ?_⟩ | refine ⟨_, _, rfl, rfl, ?_⟩ | refine ⟨⟨_, _, rfl⟩, ?_⟩ | refine ⟨_, _, _, rfl, rfl, ?_⟩ | refine ⟨_, _, _, rfl, ?_⟩ | refine And.intro (by omega) ?_ | refine And.intro ⟨by omega, by omega⟩ ?_ | refine And.intro (by assumption) ?_ | refine And.intro (sz (by first | omega | (simp only [List.length_append, List.length_cons, List.length_nil, List.length_map, dInts_len, List.length_set]; omega))) ?_ | refine And.intro (szl (by first | omega | (simp only [List.length_append, List.length_cons, List.length_nil, List.length_map, dInts_len, List.length_set]; omega))) ?_ | fail) | fail))
    exact k
  · (repeat' ((fail_if_success (with_reducible refine ForI.stop ?_)); (fail_if_success (with_reducible refine CompI.stop ?_)); (fail_if_success (with_reducible refine whileI.stop ?_)); first | ((with_reducible refine (id : φ_stuck _ _ _ → φ_stuck _ _ _) ?_); first | refine ⟨(_, _, _, _, _), rfl, ⟨by assumption, by omega, by first | exact .inl rfl | exact .inr rfl | assumption, by omega⟩, ?_⟩ | refine ⟨(_, _, _, _, _), rfl, ⟨(‹PrOk _ _ _›).ok, by have := (‹PrOk _ _ _›).ll; omega, by first | exact .inl rfl | exact .inr rfl | assumption, by omega⟩, ?_⟩ | fail) | ((with_reducible refine (id : φ_serves _ _ _ → φ_serves _ _ _) ?_); first | refine ⟨(_, _, _, _, _), rfl, ⟨by assumption, by omega, by first | exact .inl rfl | exact .inr rfl | assumption, by omega⟩, ?_⟩ | refine ⟨(_, _, _, _, _), rfl, ⟨(‹PrOk _ _ _›).ok, by have := (‹PrOk _ _ _›).ll; omega, by first | exact .inl rfl | exact .inr rfl | assumption, by omega⟩, ?_⟩ | fail) | ((with_reducible refine (id : φ__law_way _ _ _ → φ__law_way _ _ _) ?_); first | refine φ__law_way_go (by assumption) (by assumption) (by first | exact .inl rfl | exact .inr rfl | assumption) (by omega) (by omega) ?_ | fail) | ((with_reducible refine (id : φ__law_jumps _ _ _ → φ__law_jumps _ _ _) ?_); first | refine ⟨_, rfl, by have := (‹SkOk _›).1; omega, ?_⟩ | fail) | ((with_reducible refine (id : pEq _ _ → pEq _ _) ?_); first | refine pEq_strT ?_ | refine pEq_int ?_ | refine pEq_str ?_ | refine pEq_nils ?_ | refine pEq_nilt ?_ | fail) | ((with_reducible refine (id : pNe _ _ → pNe _ _) ?_); first | refine pNe_strF ?_ | refine pNe_int ?_ | refine pNe_str ?_ | refine pNe_nils ?_ | refine pNe_nilt ?_ | fail) | ((with_reducible refine (id : pLt _ _ → pLt _ _) ?_); first | refine pLt_int ?_ | fail) | ((with_reducible refine (id : pGt _ _ → pGt _ _) ?_); first | refine pGt_int ?_ | fail) | ((with_reducible refine (id : pLe _ _ → pLe _ _) ?_); first | refine pLe_int ?_ | fail) | ((with_reducible refine (id : pGe _ _ → pGe _ _) ?_); first | refine pGe_int ?_ | fail) | ((with_reducible refine (id : pMul _ _ → pMul _ _) ?_); first | refine ⟨.inl ⟨by omega, by omega⟩, ?_⟩ | refine ⟨.inr ⟨by omega, by omega⟩, ?_⟩ | fail) | ((with_reducible refine (id : pMod _ _ → pMod _ _) ?_); first | refine ⟨_, _, rfl, by omega, ?_⟩ | fail) | ((with_reducible refine (id : pDiv _ _ → pDiv _ _) ?_); first | refine ⟨_, _, rfl, ⟨by omega, by omega⟩, ?_⟩ | fail) | ((with_reducible refine (id : pPow _ _ → pPow _ _) ?_); first | refine ⟨_, _, rfl, ⟨by decide, by decide, by decide⟩, ?_⟩ | fail) | ((with_reducible refine (id : pSub _ _ → pSub _ _) ?_); first | refine ⟨_, _, rfl, ?_⟩ | fail) | ((with_reducible refine (id : pIx _ _ → pIx _ _) ?_); first | refine ⟨_, rfl, ?_⟩ | refine ⟨_, dSk_at (by assumption), ?_⟩ | refine ⟨_, nums_at (by omega), ?_⟩ | refine ⟨_, nats_at (by omega), ?_⟩ | refine ⟨_, nums_first (by omega), ?_⟩ | refine ⟨_, nums_last (by omega), ?_⟩ | fail) | ((with_reducible refine (id : φMake _ _ _ → φMake _ _ _) ?_); first | refine ⟨_, rfl, by omega, ?_⟩ | fail) | ((with_reducible refine (id : pMax _ _ → pMax _ _) ?_); first | refine pMax2 ?_ | fail) | ((with_reducible refine (id : pMin _ _ → pMin _ _) ?_); first | refine pMin2 ?_ | fail) | ((with_reducible refine (id : pSort2 _ _ → pSort2 _ _) ?_); first | refine pSort2_l ?_ | refine pSort2_t ?_ | fail) | ((with_reducible refine (id : pRepr _ _ → pRepr _ _) ?_); first | refine Nice.rp (by assumption) (by decide) (by decide) ?_ | refine (Nice.int (by omega) (by omega)).rp (by decide) (by decide) ?_ | fail) | ((with_reducible refine (id : pSl _ _ → pSl _ _) ?_); first | refine ⟨_, _, rfl, rfl, ?_⟩ | fail) | ((with_reducible refine (id : pIn _ _ → pIn _ _) ?_); first | refine pIn_row (by first | exact .inl rfl | exact .inr rfl | assumption) ?_ | fail) | ((with_reducible refine (id : pNin _ _ → pNin _ _) ?_); first | refine pNin_row (by first | exact .inl rfl | exact .inr rfl | assumption) ?_ | fail) | ((with_reducible refine (id : φDraw _ _ _ → φDraw _ _ _) ?_); first | refine ⟨_, rfl, by first | decide | omega, by first | decide | omega, fun i hi => ?_⟩ | fail) | (refine ⟨(rfl : ltB _ _), ?_⟩; try dsimp only [upds, putBack, backSl, wipeS, keepS, List.set_cons_zero, List.set_cons_succ, getD_s, getD_z, List.cons_append, List.nil_append, List.replicate, List.reduceReplicate, R.sl]) | ((with_reducible refine (id : @ite _ _ _ _ _ → @ite _ _ _ _ _) ?_); first | refine iteT rfl ?_ | refine iteF rfl ?_ | refine iteB (fun hh => ?_) (fun hh => ?_) | refine iteb (fun hh => ?_) (fun hh => ?_) | fail) | ((fail_if_success (with_reducible refine (id : pEq _ _ → pEq _ _) ?_)); (fail_if_success (with_reducible refine (id : pNe _ _ → pNe _ _) ?_)); (fail_if_success (with_reducible refine (id : pLt _ _ → pLt _ _) ?_)); (fail_if_success (with_reducible refine (id : pGt _ _ → pGt _ _) ?_)); (fail_if_success (with_reducible refine (id : pLe _ _ → pLe _ _) ?_)); (fail_if_success (with_reducible refine (id : pGe _ _ → pGe _ _) ?_)); (fail_if_success (with_reducible refine (id : pMul _ _ → pMul _ _) ?_)); (fail_if_success (with_reducible refine (id : pMod _ _ → pMod _ _) ?_)); (fail_if_success (with_reducible refine (id : pDiv _ _ → pDiv _ _) ?_)); (fail_if_success (with_reducible refine (id : pPow _ _ → pPow _ _) ?_)); (fail_if_success (with_reducible refine (id : pSub _ _ → pSub _ _) ?_)); (fail_if_success (with_reducible refine (id : pIx _ _ → pIx _ _) ?_)); (fail_if_success (with_reducible refine (id : φMake _ _ _ → φMake _ _ _) ?_)); (fail_if_success (with_reducible refine (id : pMax _ _ → pMax _ _) ?_)); (fail_if_success (with_reducible refine (id : pMin _ _ → pMin _ _) ?_)); (fail_if_success (with_reducible refine (id : pSort2 _ _ → pSort2 _ _) ?_)); (fail_if_success (with_reducible refine (id : pRepr _ _ → pRepr _ _) ?_)); (fail_if_success (with_reducible refine (id : pSl _ _ → pSl _ _) ?_)); (fail_if_success (with_reducible refine (id : pIn _ _ → pIn _ _) ?_)); (fail_if_success (with_reducible refine (id : pNin _ _ → pNin _ _) ?_)); (fail_if_success (with_reducible refine (id : φDraw _ _ _ → φDraw _ _ _) ?_)); (fail_if_success (with_reducible refine (id : φ__law_jumps _ _ _ → φ__law_jumps _ _ _) ?_)); (fail_if_success (with_reducible refine (id : φ__law_way _ _ _ → φ__law_way _ _ _) ?_)); (fail_if_success (with_reducible refine (id : φ_serves _ _ _ → φ_serves _ _ _) ?_)); (fail_if_success (with_reducible refine (id : φ_stuck _ _ _ → φ_stuck _ _ _) ?_)); first | refine ⟨rfl, ?_⟩ | refine ⟨_, rfl, ?_⟩ | refine ⟨_, rfl, rfl, ?_⟩ | refine ⟨_, _, rfl, ?_⟩ | refine ⟨_, _, rfl, rfl, ?_⟩ | refine ⟨⟨_, _, rfl⟩, ?_⟩ | refine ⟨_, _, _, rfl, rfl, ?_⟩ | refine ⟨_, _, _, rfl, ?_⟩ | refine And.intro (by omega) ?_ | refine And.intro ⟨by omega, by omega⟩ ?_ | refine And.intro (by assumption) ?_ | refine And.intro (sz (by first | omega | (simp only [List.length_append, List.length_cons, List.length_nil, List.length_map, dInts_len, List.length_set]; omega))) ?_ | refine And.intro (szl (by first | omega | (simp only [List.length_append, List.length_cons, List.length_nil, List.length_map, dInts_len, List.length_set]; omega))) ?_ | fail) | fail))
    · exact q
    · refine pMax_ne (by cases e : jumpsOf 0 sk with | nil => rw [e] at hh; cases hh | cons a r => rfl) fun m _ hm => ?_
      have wb : ∀ j ∈ jumpsOf 0 sk, wayAt sk ls ch j ≤ m := fun j hj => hm _ (List.mem_map.mpr ⟨j, hj, rfl⟩)
      have st0 : ∀ ws : List Int, (∀ (i k : Nat) (x : Int), (jumpsOf 0 sk)[i]? = some k → ws[i]? = some x → wayAt sk ls ch k ≤ x) → stuckOf sk ls ws ch = [] := fun ws h => stuck_nil fun p hp => by
        obtain ⟨i, hi⟩ := List.mem_iff_getElem?.mp hp
        obtain ⟨h1, h2⟩ := List.getElem?_zip_eq_some.mp hi
        exact h i p.1 p.2 h1 h2
      have dl := dInts_len (jumpsOf 0 sk)
      have l0 : 0 < (jumpsOf 0 sk).length := by cases e : jumpsOf 0 sk with | nil => rw [e] at hh; cases hh | cons a r => exact Nat.succ_pos _
      have wl : (List.map (wayAt sk ls ch) (jumpsOf 0 sk)).length = (jumpsOf 0 sk).length := List.length_map _
      have ew : ∀ (i k : Nat) (x : Int), (jumpsOf 0 sk)[i]? = some k → (List.map (wayAt sk ls ch) (jumpsOf 0 sk))[i]? = some x → x = wayAt sk ls ch k := fun i k x h1 h2 => by
        rw [List.getElem?_map, h1] at h2
        exact (Option.some.inj h2).symm
      have z1 := st0 (List.map (wayAt sk ls ch) (jumpsOf 0 sk)) fun i k x h1 h2 => by rw [ew i k x h1 h2]; exact Int.le_refl _
      (repeat' ((fail_if_success (with_reducible refine ForI.stop ?_)); (fail_if_success (with_reducible refine CompI.stop ?_)); (fail_if_success (with_reducible refine whileI.stop ?_)); first | ((with_reducible refine (id : φ_stuck _ _ _ → φ_stuck _ _ _) ?_); first | refine ⟨(_, _, _, _, _), rfl, ⟨by assumption, by omega, by first | exact .inl rfl | exact .inr rfl | assumption, by omega⟩, ?_⟩ | refine ⟨(_, _, _, _, _), rfl, ⟨(‹PrOk _ _ _›).ok, by have := (‹PrOk _ _ _›).ll; omega, by first | exact .inl rfl | exact .inr rfl | assumption, by omega⟩, ?_⟩ | fail) | ((with_reducible refine (id : φ_serves _ _ _ → φ_serves _ _ _) ?_); first | refine ⟨(_, _, _, _, _), rfl, ⟨by assumption, by omega, by first | exact .inl rfl | exact .inr rfl | assumption, by omega⟩, ?_⟩ | refine ⟨(_, _, _, _, _), rfl, ⟨(‹PrOk _ _ _›).ok, by have := (‹PrOk _ _ _›).ll; omega, by first | exact .inl rfl | exact .inr rfl | assumption, by omega⟩, ?_⟩ | fail) | ((with_reducible refine (id : φ__law_way _ _ _ → φ__law_way _ _ _) ?_); first | refine φ__law_way_go (by assumption) (by assumption) (by first | exact .inl rfl | exact .inr rfl | assumption) (by omega) (by omega) ?_ | fail) | ((with_reducible refine (id : φ__law_jumps _ _ _ → φ__law_jumps _ _ _) ?_); first | refine ⟨_, rfl, by have := (‹SkOk _›).1; omega, ?_⟩ | fail) | ((with_reducible refine (id : pEq _ _ → pEq _ _) ?_); first | refine pEq_strT ?_ | refine pEq_int ?_ | refine pEq_str ?_ | refine pEq_nils ?_ | refine pEq_nilt ?_ | fail) | ((with_reducible refine (id : pNe _ _ → pNe _ _) ?_); first | refine pNe_strF ?_ | refine pNe_int ?_ | refine pNe_str ?_ | refine pNe_nils ?_ | refine pNe_nilt ?_ | fail) | ((with_reducible refine (id : pLt _ _ → pLt _ _) ?_); first | refine pLt_int ?_ | fail) | ((with_reducible refine (id : pGt _ _ → pGt _ _) ?_); first | refine pGt_int ?_ | fail) | ((with_reducible refine (id : pLe _ _ → pLe _ _) ?_); first | refine pLe_int ?_ | fail) | ((with_reducible refine (id : pGe _ _ → pGe _ _) ?_); first | refine pGe_int ?_ | fail) | ((with_reducible refine (id : pMul _ _ → pMul _ _) ?_); first | refine ⟨.inl ⟨by omega, by omega⟩, ?_⟩ | refine ⟨.inr ⟨by omega, by omega⟩, ?_⟩ | fail) | ((with_reducible refine (id : pMod _ _ → pMod _ _) ?_); first | refine ⟨_, _, rfl, by omega, ?_⟩ | fail) | ((with_reducible refine (id : pDiv _ _ → pDiv _ _) ?_); first | refine ⟨_, _, rfl, ⟨by omega, by omega⟩, ?_⟩ | fail) | ((with_reducible refine (id : pPow _ _ → pPow _ _) ?_); first | refine ⟨_, _, rfl, ⟨by decide, by decide, by decide⟩, ?_⟩ | fail) | ((with_reducible refine (id : pSub _ _ → pSub _ _) ?_); first | refine ⟨_, _, rfl, ?_⟩ | fail) | ((with_reducible refine (id : pIx _ _ → pIx _ _) ?_); first | refine ⟨_, rfl, ?_⟩ | refine ⟨_, dSk_at (by assumption), ?_⟩ | refine ⟨_, nums_at (by omega), ?_⟩ | refine ⟨_, nats_at (by omega), ?_⟩ | refine ⟨_, nums_first (by omega), ?_⟩ | refine ⟨_, nums_last (by omega), ?_⟩ | fail) | ((with_reducible refine (id : φMake _ _ _ → φMake _ _ _) ?_); first | refine ⟨_, rfl, by omega, ?_⟩ | fail) | ((with_reducible refine (id : pMax _ _ → pMax _ _) ?_); first | refine pMax2 ?_ | fail) | ((with_reducible refine (id : pMin _ _ → pMin _ _) ?_); first | refine pMin2 ?_ | fail) | ((with_reducible refine (id : pSort2 _ _ → pSort2 _ _) ?_); first | refine pSort2_l ?_ | refine pSort2_t ?_ | fail) | ((with_reducible refine (id : pRepr _ _ → pRepr _ _) ?_); first | refine Nice.rp (by assumption) (by decide) (by decide) ?_ | refine (Nice.int (by omega) (by omega)).rp (by decide) (by decide) ?_ | fail) | ((with_reducible refine (id : pSl _ _ → pSl _ _) ?_); first | refine ⟨_, _, rfl, rfl, ?_⟩ | fail) | ((with_reducible refine (id : pIn _ _ → pIn _ _) ?_); first | refine pIn_row (by first | exact .inl rfl | exact .inr rfl | assumption) ?_ | fail) | ((with_reducible refine (id : pNin _ _ → pNin _ _) ?_); first | refine pNin_row (by first | exact .inl rfl | exact .inr rfl | assumption) ?_ | fail) | ((with_reducible refine (id : φDraw _ _ _ → φDraw _ _ _) ?_); first | refine ⟨_, rfl, by first | decide | omega, by first | decide | omega, fun i hi => ?_⟩ | fail) | (refine ⟨(rfl : ltB _ _), ?_⟩; try dsimp only [upds, putBack, backSl, wipeS, keepS, List.set_cons_zero, List.set_cons_succ, getD_s, getD_z, List.cons_append, List.nil_append, List.replicate, List.reduceReplicate, R.sl]) | ((with_reducible refine (id : @ite _ _ _ _ _ → @ite _ _ _ _ _) ?_); first | refine iteT rfl ?_ | refine iteF rfl ?_ | refine iteB (fun hh => ?_) (fun hh => ?_) | refine iteb (fun hh => ?_) (fun hh => ?_) | fail) | ((fail_if_success (with_reducible refine (id : pEq _ _ → pEq _ _) ?_)); (fail_if_success (with_reducible refine (id : pNe _ _ → pNe _ _) ?_)); (fail_if_success (with_reducible refine (id : pLt _ _ → pLt _ _) ?_)); (fail_if_success (with_reducible refine (id : pGt _ _ → pGt _ _) ?_)); (fail_if_success (with_reducible refine (id : pLe _ _ → pLe _ _) ?_)); (fail_if_success (with_reducible refine (id : pGe _ _ → pGe _ _) ?_)); (fail_if_success (with_reducible refine (id : pMul _ _ → pMul _ _) ?_)); (fail_if_success (with_reducible refine (id : pMod _ _ → pMod _ _) ?_)); (fail_if_success (with_reducible refine (id : pDiv _ _ → pDiv _ _) ?_)); (fail_if_success (with_reducible refine (id : pPow _ _ → pPow _ _) ?_)); (fail_if_success (with_reducible refine (id : pSub _ _ → pSub _ _) ?_)); (fail_if_success (with_reducible refine (id : pIx _ _ → pIx _ _) ?_)); (fail_if_success (with_reducible refine (id : φMake _ _ _ → φMake _ _ _) ?_)); (fail_if_success (with_reducible refine (id : pMax _ _ → pMax _ _) ?_)); (fail_if_success (with_reducible refine (id : pMin _ _ → pMin _ _) ?_)); (fail_if_success (with_reducible refine (id : pSort2 _ _ → pSort2 _ _) ?_)); (fail_if_success (with_reducible refine (id : pRepr _ _ → pRepr _ _) ?_)); (fail_if_success (with_reducible refine (id : pSl _ _ → pSl _ _) ?_)); (fail_if_success (with_reducible refine (id : pIn _ _ → pIn _ _) ?_)); (fail_if_success (with_reducible refine (id : pNin _ _ → pNin _ _) ?_)); (fail_if_success (with_reducible refine (id : φDraw _ _ _ → φDraw _ _ _) ?_)); (fail_if_success (with_reducible refine (id : φ__law_jumps _ _ _ → φ__law_jumps _ _ _) ?_)); (fail_if_success (with_reducible refine (id : φ__law_way _ _ _ → φ__law_way _ _ _) ?_)); (fail_if_success (with_reducible refine (id : φ_serves _ _ _ → φ_serves _ _ _) ?_)); (fail_if_success (with_reducible refine (id : φ_stuck _ _ _ → φ_stuck _ _ _) ?_)); first | refine ⟨rfl, ?_⟩ | refine ⟨_, rfl, ?_⟩ | refine ⟨_, rfl, rfl, ?_⟩ | refine ⟨_, _, rfl, ?_⟩ | refine ⟨_, _, rfl, rfl, ?_⟩ | refine ⟨⟨_, _, rfl⟩, ?_⟩ | refine ⟨_, _, _, rfl, rfl, ?_⟩ | refine ⟨_, _, _, rfl, ?_⟩ | refine And.intro (by omega) ?_ | refine And.intro ⟨by omega, by omega⟩ ?_ | refine And.intro (by assumption) ?_ | refine And.intro (sz (by first | omega | (simp only [List.length_append, List.length_cons, List.length_nil, List.length_map, dInts_len, List.length_set]; omega))) ?_ | refine And.intro (szl (by first | omega | (simp only [List.length_append, List.length_cons, List.length_nil, List.length_map, dInts_len, List.length_set]; omega))) ?_ | fail) | fail))
      · exact q
      · rw [z1] at *
        contradiction
      · refine comp_rel .int .int (List.map (wayAt sk ls ch) (jumpsOf 0 sk)) (fun x y => x ≤ y) rfl ⟨⟨_, rfl⟩, trivial⟩ ?_ ?_
        · intro x hx K k
          (repeat' ((fail_if_success (with_reducible refine ForI.stop ?_)); (fail_if_success (with_reducible refine CompI.stop ?_)); (fail_if_success (with_reducible refine whileI.stop ?_)); first | ((with_reducible refine (id : φ_stuck _ _ _ → φ_stuck _ _ _) ?_); first | refine ⟨(_, _, _, _, _), rfl, ⟨by assumption, by omega, by first | exact .inl rfl | exact .inr rfl | assumption, by omega⟩, ?_⟩ | refine ⟨(_, _, _, _, _), rfl, ⟨(‹PrOk _ _ _›).ok, by have := (‹PrOk _ _ _›).ll; omega, by first | exact .inl rfl | exact .inr rfl | assumption, by omega⟩, ?_⟩ | fail) | ((with_reducible refine (id : φ_serves _ _ _ → φ_serves _ _ _) ?_); first | refine ⟨(_, _, _, _, _), rfl, ⟨by assumption, by omega, by first | exact .inl rfl | exact .inr rfl | assumption, by omega⟩, ?_⟩ | refine ⟨(_, _, _, _, _), rfl, ⟨(‹PrOk _ _ _›).ok, by have := (‹PrOk _ _ _›).ll; omega, by first | exact .inl rfl | exact .inr rfl | assumption, by omega⟩, ?_⟩ | fail) | ((with_reducible refine (id : φ__law_way _ _ _ → φ__law_way _ _ _) ?_); first | refine φ__law_way_go (by assumption) (by assumption) (by first | exact .inl rfl | exact .inr rfl | assumption) (by omega) (by omega) ?_ | fail) | ((with_reducible refine (id : φ__law_jumps _ _ _ → φ__law_jumps _ _ _) ?_); first | refine ⟨_, rfl, by have := (‹SkOk _›).1; omega, ?_⟩ | fail) | ((with_reducible refine (id : pEq _ _ → pEq _ _) ?_); first | refine pEq_strT ?_ | refine pEq_int ?_ | refine pEq_str ?_ | refine pEq_nils ?_ | refine pEq_nilt ?_ | fail) | ((with_reducible refine (id : pNe _ _ → pNe _ _) ?_); first | refine pNe_strF ?_ | refine pNe_int ?_ | refine pNe_str ?_ | refine pNe_nils ?_ | refine pNe_nilt ?_ | fail) | ((with_reducible refine (id : pLt _ _ → pLt _ _) ?_); first | refine pLt_int ?_ | fail) | ((with_reducible refine (id : pGt _ _ → pGt _ _) ?_); first | refine pGt_int ?_ | fail) | ((with_reducible refine (id : pLe _ _ → pLe _ _) ?_); first | refine pLe_int ?_ | fail) | ((with_reducible refine (id : pGe _ _ → pGe _ _) ?_); first | refine pGe_int ?_ | fail) | ((with_reducible refine (id : pMul _ _ → pMul _ _) ?_); first | refine ⟨.inl ⟨by omega, by omega⟩, ?_⟩ | refine ⟨.inr ⟨by omega, by omega⟩, ?_⟩ | fail) | ((with_reducible refine (id : pMod _ _ → pMod _ _) ?_); first | refine ⟨_, _, rfl, by omega, ?_⟩ | fail) | ((with_reducible refine (id : pDiv _ _ → pDiv _ _) ?_); first | refine ⟨_, _, rfl, ⟨by omega, by omega⟩, ?_⟩ | fail) | ((with_reducible refine (id : pPow _ _ → pPow _ _) ?_); first | refine ⟨_, _, rfl, ⟨by decide, by decide, by decide⟩, ?_⟩ | fail) | ((with_reducible refine (id : pSub _ _ → pSub _ _) ?_); first | refine ⟨_, _, rfl, ?_⟩ | fail) | ((with_reducible refine (id : pIx _ _ → pIx _ _) ?_); first | refine ⟨_, rfl, ?_⟩ | refine ⟨_, dSk_at (by assumption), ?_⟩ | refine ⟨_, nums_at (by omega), ?_⟩ | refine ⟨_, nats_at (by omega), ?_⟩ | refine ⟨_, nums_first (by omega), ?_⟩ | refine ⟨_, nums_last (by omega), ?_⟩ | fail) | ((with_reducible refine (id : φMake _ _ _ → φMake _ _ _) ?_); first | refine ⟨_, rfl, by omega, ?_⟩ | fail) | ((with_reducible refine (id : pMax _ _ → pMax _ _) ?_); first | refine pMax2 ?_ | fail) | ((with_reducible refine (id : pMin _ _ → pMin _ _) ?_); first | refine pMin2 ?_ | fail) | ((with_reducible refine (id : pSort2 _ _ → pSort2 _ _) ?_); first | refine pSort2_l ?_ | refine pSort2_t ?_ | fail) | ((with_reducible refine (id : pRepr _ _ → pRepr _ _) ?_); first | refine Nice.rp (by assumption) (by decide) (by decide) ?_ | refine (Nice.int (by omega) (by omega)).rp (by decide) (by decide) ?_ | fail) | ((with_reducible refine (id : pSl _ _ → pSl _ _) ?_); first | refine ⟨_, _, rfl, rfl, ?_⟩ | fail) | ((with_reducible refine (id : pIn _ _ → pIn _ _) ?_); first | refine pIn_row (by first | exact .inl rfl | exact .inr rfl | assumption) ?_ | fail) | ((with_reducible refine (id : pNin _ _ → pNin _ _) ?_); first | refine pNin_row (by first | exact .inl rfl | exact .inr rfl | assumption) ?_ | fail) | ((with_reducible refine (id : φDraw _ _ _ → φDraw _ _ _) ?_); first | refine ⟨_, rfl, by first | decide | omega, by first | decide | omega, fun i hi => ?_⟩ | fail) | (refine ⟨(rfl : ltB _ _), ?_⟩; try dsimp only [upds, putBack, backSl, wipeS, keepS, List.set_cons_zero, List.set_cons_succ, getD_s, getD_z, List.cons_append, List.nil_append, List.replicate, List.reduceReplicate, R.sl]) | ((with_reducible refine (id : @ite _ _ _ _ _ → @ite _ _ _ _ _) ?_); first | refine iteT rfl ?_ | refine iteF rfl ?_ | refine iteB (fun hh => ?_) (fun hh => ?_) | refine iteb (fun hh => ?_) (fun hh => ?_) | fail) | ((fail_if_success (with_reducible refine (id : pEq _ _ → pEq _ _) ?_)); (fail_if_success (with_reducible refine (id : pNe _ _ → pNe _ _) ?_)); (fail_if_success (with_reducible refine (id : pLt _ _ → pLt _ _) ?_)); (fail_if_success (with_reducible refine (id : pGt _ _ → pGt _ _) ?_)); (fail_if_success (with_reducible refine (id : pLe _ _ → pLe _ _) ?_)); (fail_if_success (with_reducible refine (id : pGe _ _ → pGe _ _) ?_)); (fail_if_success (with_reducible refine (id : pMul _ _ → pMul _ _) ?_)); (fail_if_success (with_reducible refine (id : pMod _ _ → pMod _ _) ?_)); (fail_if_success (with_reducible refine (id : pDiv _ _ → pDiv _ _) ?_)); (fail_if_success (with_reducible refine (id : pPow _ _ → pPow _ _) ?_)); (fail_if_success (with_reducible refine (id : pSub _ _ → pSub _ _) ?_)); (fail_if_success (with_reducible refine (id : pIx _ _ → pIx _ _) ?_)); (fail_if_success (with_reducible refine (id : φMake _ _ _ → φMake _ _ _) ?_)); (fail_if_success (with_reducible refine (id : pMax _ _ → pMax _ _) ?_)); (fail_if_success (with_reducible refine (id : pMin _ _ → pMin _ _) ?_)); (fail_if_success (with_reducible refine (id : pSort2 _ _ → pSort2 _ _) ?_)); (fail_if_success (with_reducible refine (id : pRepr _ _ → pRepr _ _) ?_)); (fail_if_success (with_reducible refine (id : pSl _ _ → pSl _ _) ?_)); (fail_if_success (with_reducible refine (id : pIn _ _ → pIn _ _) ?_)); (fail_if_success (with_reducible refine (id : pNin _ _ → pNin _ _) ?_)); (fail_if_success (with_reducible refine (id : φDraw _ _ _ → φDraw _ _ _) ?_)); (fail_if_success (with_reducible refine (id : φ__law_jumps _ _ _ → φ__law_jumps _ _ _) ?_)); (fail_if_success (with_reducible refine (id : φ__law_way _ _ _ → φ__law_way _ _ _) ?_)); (fail_if_success (with_reducible refine (id : φ_serves _ _ _ → φ_serves _ _ _) ?_)); (fail_if_success (with_reducible refine (id : φ_stuck _ _ _ → φ_stuck _ _ _) ?_)); first | refine ⟨rfl, ?_⟩ | refine ⟨_, rfl, ?_⟩ | refine ⟨_, rfl, rfl, ?_⟩ | refine ⟨_, _, rfl, ?_⟩ | refine ⟨_, _, rfl, rfl, ?_⟩ | refine ⟨⟨_, _, rfl⟩, ?_⟩ | refine ⟨_, _, _, rfl, rfl, ?_⟩ | refine ⟨_, _, _, rfl, ?_⟩ | refine And.intro (by omega) ?_ | refine And.intro ⟨by omega, by omega⟩ ?_ | refine And.intro (by assumption) ?_ | refine And.intro (sz (by first | omega | (simp only [List.length_append, List.length_cons, List.length_nil, List.length_map, dInts_len, List.length_set]; omega))) ?_ | refine And.intro (szl (by first | omega | (simp only [List.length_append, List.length_cons, List.length_nil, List.length_map, dInts_len, List.length_set]; omega))) ?_ | fail) | fail))
          exact k _ (by split <;> omega)
        · intro ms hm1 hm2
          have z2 := st0 ms fun i k x h1 h2 => by
            have := lt_of_get h2
            have := hm2 i _ x (List.getElem?_eq_getElem (by omega)) h2
            rw [ew i k _ h1 (List.getElem?_eq_getElem (by omega))] at this
            exact this
          have hi' : i < (List.map (wayAt sk ls ch) (jumpsOf 0 sk)).length := by omega
          have c1 : (cutD (List.map PyData.int (List.map (wayAt sk ls ch) (jumpsOf 0 sk))) none (some (i : Int))).length ≤ 24 := Nat.le_trans cutD_len (by rw [List.length_map]; omega)
          have c2 : (cutD (List.map PyData.int (List.map (wayAt sk ls ch) (jumpsOf 0 sk))) (some ((i : Int) + 1)) none).length ≤ 24 := Nat.le_trans cutD_len (by rw [List.length_map]; omega)
          (repeat' ((fail_if_success (with_reducible refine ForI.stop ?_)); (fail_if_success (with_reducible refine CompI.stop ?_)); (fail_if_success (with_reducible refine whileI.stop ?_)); first | ((with_reducible refine (id : φ_stuck _ _ _ → φ_stuck _ _ _) ?_); first | refine ⟨(_, _, _, _, _), rfl, ⟨by assumption, by omega, by first | exact .inl rfl | exact .inr rfl | assumption, by omega⟩, ?_⟩ | refine ⟨(_, _, _, _, _), rfl, ⟨(‹PrOk _ _ _›).ok, by have := (‹PrOk _ _ _›).ll; omega, by first | exact .inl rfl | exact .inr rfl | assumption, by omega⟩, ?_⟩ | fail) | ((with_reducible refine (id : φ_serves _ _ _ → φ_serves _ _ _) ?_); first | refine ⟨(_, _, _, _, _), rfl, ⟨by assumption, by omega, by first | exact .inl rfl | exact .inr rfl | assumption, by omega⟩, ?_⟩ | refine ⟨(_, _, _, _, _), rfl, ⟨(‹PrOk _ _ _›).ok, by have := (‹PrOk _ _ _›).ll; omega, by first | exact .inl rfl | exact .inr rfl | assumption, by omega⟩, ?_⟩ | fail) | ((with_reducible refine (id : φ__law_way _ _ _ → φ__law_way _ _ _) ?_); first | refine φ__law_way_go (by assumption) (by assumption) (by first | exact .inl rfl | exact .inr rfl | assumption) (by omega) (by omega) ?_ | fail) | ((with_reducible refine (id : φ__law_jumps _ _ _ → φ__law_jumps _ _ _) ?_); first | refine ⟨_, rfl, by have := (‹SkOk _›).1; omega, ?_⟩ | fail) | ((with_reducible refine (id : pEq _ _ → pEq _ _) ?_); first | refine pEq_strT ?_ | refine pEq_int ?_ | refine pEq_str ?_ | refine pEq_nils ?_ | refine pEq_nilt ?_ | fail) | ((with_reducible refine (id : pNe _ _ → pNe _ _) ?_); first | refine pNe_strF ?_ | refine pNe_int ?_ | refine pNe_str ?_ | refine pNe_nils ?_ | refine pNe_nilt ?_ | fail) | ((with_reducible refine (id : pLt _ _ → pLt _ _) ?_); first | refine pLt_int ?_ | fail) | ((with_reducible refine (id : pGt _ _ → pGt _ _) ?_); first | refine pGt_int ?_ | fail) | ((with_reducible refine (id : pLe _ _ → pLe _ _) ?_); first | refine pLe_int ?_ | fail) | ((with_reducible refine (id : pGe _ _ → pGe _ _) ?_); first | refine pGe_int ?_ | fail) | ((with_reducible refine (id : pMul _ _ → pMul _ _) ?_); first | refine ⟨.inl ⟨by omega, by omega⟩, ?_⟩ | refine ⟨.inr ⟨by omega, by omega⟩, ?_⟩ | fail) | ((with_reducible refine (id : pMod _ _ → pMod _ _) ?_); first | refine ⟨_, _, rfl, by omega, ?_⟩ | fail) | ((with_reducible refine (id : pDiv _ _ → pDiv _ _) ?_); first | refine ⟨_, _, rfl, ⟨by omega, by omega⟩, ?_⟩ | fail) | ((with_reducible refine (id : pPow _ _ → pPow _ _) ?_); first | refine ⟨_, _, rfl, ⟨by decide, by decide, by decide⟩, ?_⟩ | fail) | ((with_reducible refine (id : pSub _ _ → pSub _ _) ?_); first | refine ⟨_, _, rfl, ?_⟩ | fail) | ((with_reducible refine (id : pIx _ _ → pIx _ _) ?_); first | refine ⟨_, rfl, ?_⟩ | refine ⟨_, dSk_at (by assumption), ?_⟩ | refine ⟨_, nums_at (by omega), ?_⟩ | refine ⟨_, nats_at (by omega), ?_⟩ | refine ⟨_, nums_first (by omega), ?_⟩ | refine ⟨_, nums_last (by omega), ?_⟩ | fail) | ((with_reducible refine (id : φMake _ _ _ → φMake _ _ _) ?_); first | refine ⟨_, rfl, by omega, ?_⟩ | fail) | ((with_reducible refine (id : pMax _ _ → pMax _ _) ?_); first | refine pMax2 ?_ | fail) | ((with_reducible refine (id : pMin _ _ → pMin _ _) ?_); first | refine pMin2 ?_ | fail) | ((with_reducible refine (id : pSort2 _ _ → pSort2 _ _) ?_); first | refine pSort2_l ?_ | refine pSort2_t ?_ | fail) | ((with_reducible refine (id : pRepr _ _ → pRepr _ _) ?_); first | refine Nice.rp (by assumption) (by decide) (by decide) ?_ | refine (Nice.int (by omega) (by omega)).rp (by decide) (by decide) ?_ | fail) | ((with_reducible refine (id : pSl _ _ → pSl _ _) ?_); first | refine ⟨_, _, rfl, rfl, ?_⟩ | fail) | ((with_reducible refine (id : pIn _ _ → pIn _ _) ?_); first | refine pIn_row (by first | exact .inl rfl | exact .inr rfl | assumption) ?_ | fail) | ((with_reducible refine (id : pNin _ _ → pNin _ _) ?_); first | refine pNin_row (by first | exact .inl rfl | exact .inr rfl | assumption) ?_ | fail) | ((with_reducible refine (id : φDraw _ _ _ → φDraw _ _ _) ?_); first | refine ⟨_, rfl, by first | decide | omega, by first | decide | omega, fun i hi => ?_⟩ | fail) | (refine ⟨(rfl : ltB _ _), ?_⟩; try dsimp only [upds, putBack, backSl, wipeS, keepS, List.set_cons_zero, List.set_cons_succ, getD_s, getD_z, List.cons_append, List.nil_append, List.replicate, List.reduceReplicate, R.sl]) | ((with_reducible refine (id : @ite _ _ _ _ _ → @ite _ _ _ _ _) ?_); first | refine iteT rfl ?_ | refine iteF rfl ?_ | refine iteB (fun hh => ?_) (fun hh => ?_) | refine iteb (fun hh => ?_) (fun hh => ?_) | fail) | ((fail_if_success (with_reducible refine (id : pEq _ _ → pEq _ _) ?_)); (fail_if_success (with_reducible refine (id : pNe _ _ → pNe _ _) ?_)); (fail_if_success (with_reducible refine (id : pLt _ _ → pLt _ _) ?_)); (fail_if_success (with_reducible refine (id : pGt _ _ → pGt _ _) ?_)); (fail_if_success (with_reducible refine (id : pLe _ _ → pLe _ _) ?_)); (fail_if_success (with_reducible refine (id : pGe _ _ → pGe _ _) ?_)); (fail_if_success (with_reducible refine (id : pMul _ _ → pMul _ _) ?_)); (fail_if_success (with_reducible refine (id : pMod _ _ → pMod _ _) ?_)); (fail_if_success (with_reducible refine (id : pDiv _ _ → pDiv _ _) ?_)); (fail_if_success (with_reducible refine (id : pPow _ _ → pPow _ _) ?_)); (fail_if_success (with_reducible refine (id : pSub _ _ → pSub _ _) ?_)); (fail_if_success (with_reducible refine (id : pIx _ _ → pIx _ _) ?_)); (fail_if_success (with_reducible refine (id : φMake _ _ _ → φMake _ _ _) ?_)); (fail_if_success (with_reducible refine (id : pMax _ _ → pMax _ _) ?_)); (fail_if_success (with_reducible refine (id : pMin _ _ → pMin _ _) ?_)); (fail_if_success (with_reducible refine (id : pSort2 _ _ → pSort2 _ _) ?_)); (fail_if_success (with_reducible refine (id : pRepr _ _ → pRepr _ _) ?_)); (fail_if_success (with_reducible refine (id : pSl _ _ → pSl _ _) ?_)); (fail_if_success (with_reducible refine (id : pIn _ _ → pIn _ _) ?_)); (fail_if_success (with_reducible refine (id : pNin _ _ → pNin _ _) ?_)); (fail_if_success (with_reducible refine (id : φDraw _ _ _ → φDraw _ _ _) ?_)); (fail_if_success (with_reducible refine (id : φ__law_jumps _ _ _ → φ__law_jumps _ _ _) ?_)); (fail_if_success (with_reducible refine (id : φ__law_way _ _ _ → φ__law_way _ _ _) ?_)); (fail_if_success (with_reducible refine (id : φ_serves _ _ _ → φ_serves _ _ _) ?_)); (fail_if_success (with_reducible refine (id : φ_stuck _ _ _ → φ_stuck _ _ _) ?_)); first | refine ⟨rfl, ?_⟩ | refine ⟨_, rfl, ?_⟩ | refine ⟨_, rfl, rfl, ?_⟩ | refine ⟨_, _, rfl, ?_⟩ | refine ⟨_, _, rfl, rfl, ?_⟩ | refine ⟨⟨_, _, rfl⟩, ?_⟩ | refine ⟨_, _, _, rfl, rfl, ?_⟩ | refine ⟨_, _, _, rfl, ?_⟩ | refine And.intro (by omega) ?_ | refine And.intro ⟨by omega, by omega⟩ ?_ | refine And.intro (by assumption) ?_ | refine And.intro (sz (by first | omega | (simp only [List.length_append, List.length_cons, List.length_nil, List.length_map, dInts_len, List.length_set]; omega))) ?_ | refine And.intro (szl (by first | omega | (simp only [List.length_append, List.length_cons, List.length_nil, List.length_map, dInts_len, List.length_set]; omega))) ?_ | fail) | fail))
          · rw [z2] at *
            contradiction
          · exact q
          · exact q
          · rw [set_cut hi']
            have z3 : stuckOf sk ls ((List.map (wayAt sk ls ch) (jumpsOf 0 sk)).set i ((List.map (wayAt sk ls ch) (jumpsOf 0 sk)).getD i 0 - 1)) ch = [(jumpsOf 0 sk).getD i 0] := by
              have il : i < (jumpsOf 0 sk).length := by omega
              have e1 : (jumpsOf 0 sk)[i]? = some ((jumpsOf 0 sk).getD i 0) := by rw [List.getD_eq_getElem?_getD, List.getElem?_eq_getElem il]; rfl
              have e2 : (List.map (wayAt sk ls ch) (jumpsOf 0 sk)).getD i 0 = wayAt sk ls ch ((jumpsOf 0 sk).getD i 0) := by
                rw [List.getD_eq_getElem?_getD, List.getElem?_map, e1]; rfl
              refine stuck_one (s := i) (r := (List.map (wayAt sk ls ch) (jumpsOf 0 sk)).getD i 0 - 1) e1 (by rw [List.getElem?_set_self hi']) (by assumption) (by rw [e2]; omega) fun k n x hk h1 h2 => ?_
              rw [List.getElem?_set_ne (Ne.symm hk)] at h2
              rw [ew k n x h1 h2]
              exact Int.le_refl _
            have i100 : (jumpsOf 0 sk).getD i 0 < 1000000 := by
              have := jump_lt hs (List.Sublist.refl _) ((jumpsOf 0 sk).getD i 0) (by rw [List.getD_eq_getElem?_getD, List.getElem?_eq_getElem (by omega)]; exact List.getElem_mem _)
              omega
            have n1 : Nice (.list [.tuple [.int ((jumpsOf 0 sk).getD i 0 : Nat)], .bool false]) 3 1000 := (Nice.two ((Nice.tup' fun d hd => by rw [List.mem_singleton.mp hd]; exact Nice.nat i100).le (Nat.le_refl _) (by show 1 * 42 ≤ 100; decide)) (Nice.bool.le (by decide) (by decide))).le (by decide) (by decide)
            (repeat' ((fail_if_success (with_reducible refine ForI.stop ?_)); (fail_if_success (with_reducible refine CompI.stop ?_)); (fail_if_success (with_reducible refine whileI.stop ?_)); first | ((with_reducible refine (id : φ_stuck _ _ _ → φ_stuck _ _ _) ?_); first | refine ⟨(_, _, _, _, _), rfl, ⟨by assumption, by omega, by first | exact .inl rfl | exact .inr rfl | assumption, by omega⟩, ?_⟩ | refine ⟨(_, _, _, _, _), rfl, ⟨(‹PrOk _ _ _›).ok, by have := (‹PrOk _ _ _›).ll; omega, by first | exact .inl rfl | exact .inr rfl | assumption, by omega⟩, ?_⟩ | fail) | ((with_reducible refine (id : φ_serves _ _ _ → φ_serves _ _ _) ?_); first | refine ⟨(_, _, _, _, _), rfl, ⟨by assumption, by omega, by first | exact .inl rfl | exact .inr rfl | assumption, by omega⟩, ?_⟩ | refine ⟨(_, _, _, _, _), rfl, ⟨(‹PrOk _ _ _›).ok, by have := (‹PrOk _ _ _›).ll; omega, by first | exact .inl rfl | exact .inr rfl | assumption, by omega⟩, ?_⟩ | fail) | ((with_reducible refine (id : φ__law_way _ _ _ → φ__law_way _ _ _) ?_); first | refine φ__law_way_go (by assumption) (by assumption) (by first | exact .inl rfl | exact .inr rfl | assumption) (by omega) (by omega) ?_ | fail) | ((with_reducible refine (id : φ__law_jumps _ _ _ → φ__law_jumps _ _ _) ?_); first | refine ⟨_, rfl, by have := (‹SkOk _›).1; omega, ?_⟩ | fail) | ((with_reducible refine (id : pEq _ _ → pEq _ _) ?_); first | refine pEq_strT ?_ | refine pEq_int ?_ | refine pEq_str ?_ | refine pEq_nils ?_ | refine pEq_nilt ?_ | fail) | ((with_reducible refine (id : pNe _ _ → pNe _ _) ?_); first | refine pNe_strF ?_ | refine pNe_int ?_ | refine pNe_str ?_ | refine pNe_nils ?_ | refine pNe_nilt ?_ | fail) | ((with_reducible refine (id : pLt _ _ → pLt _ _) ?_); first | refine pLt_int ?_ | fail) | ((with_reducible refine (id : pGt _ _ → pGt _ _) ?_); first | refine pGt_int ?_ | fail) | ((with_reducible refine (id : pLe _ _ → pLe _ _) ?_); first | refine pLe_int ?_ | fail) | ((with_reducible refine (id : pGe _ _ → pGe _ _) ?_); first | refine pGe_int ?_ | fail) | ((with_reducible refine (id : pMul _ _ → pMul _ _) ?_); first | refine ⟨.inl ⟨by omega, by omega⟩, ?_⟩ | refine ⟨.inr ⟨by omega, by omega⟩, ?_⟩ | fail) | ((with_reducible refine (id : pMod _ _ → pMod _ _) ?_); first | refine ⟨_, _, rfl, by omega, ?_⟩ | fail) | ((with_reducible refine (id : pDiv _ _ → pDiv _ _) ?_); first | refine ⟨_, _, rfl, ⟨by omega, by omega⟩, ?_⟩ | fail) | ((with_reducible refine (id : pPow _ _ → pPow _ _) ?_); first | refine ⟨_, _, rfl, ⟨by decide, by decide, by decide⟩, ?_⟩ | fail) | ((with_reducible refine (id : pSub _ _ → pSub _ _) ?_); first | refine ⟨_, _, rfl, ?_⟩ | fail) | ((with_reducible refine (id : pIx _ _ → pIx _ _) ?_); first | refine ⟨_, rfl, ?_⟩ | refine ⟨_, dSk_at (by assumption), ?_⟩ | refine ⟨_, nums_at (by omega), ?_⟩ | refine ⟨_, nats_at (by omega), ?_⟩ | refine ⟨_, nums_first (by omega), ?_⟩ | refine ⟨_, nums_last (by omega), ?_⟩ | fail) | ((with_reducible refine (id : φMake _ _ _ → φMake _ _ _) ?_); first | refine ⟨_, rfl, by omega, ?_⟩ | fail) | ((with_reducible refine (id : pMax _ _ → pMax _ _) ?_); first | refine pMax2 ?_ | fail) | ((with_reducible refine (id : pMin _ _ → pMin _ _) ?_); first | refine pMin2 ?_ | fail) | ((with_reducible refine (id : pSort2 _ _ → pSort2 _ _) ?_); first | refine pSort2_l ?_ | refine pSort2_t ?_ | fail) | ((with_reducible refine (id : pRepr _ _ → pRepr _ _) ?_); first | refine Nice.rp (by assumption) (by decide) (by decide) ?_ | refine (Nice.int (by omega) (by omega)).rp (by decide) (by decide) ?_ | fail) | ((with_reducible refine (id : pSl _ _ → pSl _ _) ?_); first | refine ⟨_, _, rfl, rfl, ?_⟩ | fail) | ((with_reducible refine (id : pIn _ _ → pIn _ _) ?_); first | refine pIn_row (by first | exact .inl rfl | exact .inr rfl | assumption) ?_ | fail) | ((with_reducible refine (id : pNin _ _ → pNin _ _) ?_); first | refine pNin_row (by first | exact .inl rfl | exact .inr rfl | assumption) ?_ | fail) | ((with_reducible refine (id : φDraw _ _ _ → φDraw _ _ _) ?_); first | refine ⟨_, rfl, by first | decide | omega, by first | decide | omega, fun i hi => ?_⟩ | fail) | (refine ⟨(rfl : ltB _ _), ?_⟩; try dsimp only [upds, putBack, backSl, wipeS, keepS, List.set_cons_zero, List.set_cons_succ, getD_s, getD_z, List.cons_append, List.nil_append, List.replicate, List.reduceReplicate, R.sl]) | ((with_reducible refine (id : @ite _ _ _ _ _ → @ite _ _ _ _ _) ?_); first | refine iteT rfl ?_ | refine iteF rfl ?_ | refine iteB (fun hh => ?_) (fun hh => ?_) | refine iteb (fun hh => ?_) (fun hh => ?_) | fail) | ((fail_if_success (with_reducible refine (id : pEq _ _ → pEq _ _) ?_)); (fail_if_success (with_reducible refine (id : pNe _ _ → pNe _ _) ?_)); (fail_if_success (with_reducible refine (id : pLt _ _ → pLt _ _) ?_)); (fail_if_success (with_reducible refine (id : pGt _ _ → pGt _ _) ?_)); (fail_if_success (with_reducible refine (id : pLe _ _ → pLe _ _) ?_)); (fail_if_success (with_reducible refine (id : pGe _ _ → pGe _ _) ?_)); (fail_if_success (with_reducible refine (id : pMul _ _ → pMul _ _) ?_)); (fail_if_success (with_reducible refine (id : pMod _ _ → pMod _ _) ?_)); (fail_if_success (with_reducible refine (id : pDiv _ _ → pDiv _ _) ?_)); (fail_if_success (with_reducible refine (id : pPow _ _ → pPow _ _) ?_)); (fail_if_success (with_reducible refine (id : pSub _ _ → pSub _ _) ?_)); (fail_if_success (with_reducible refine (id : pIx _ _ → pIx _ _) ?_)); (fail_if_success (with_reducible refine (id : φMake _ _ _ → φMake _ _ _) ?_)); (fail_if_success (with_reducible refine (id : pMax _ _ → pMax _ _) ?_)); (fail_if_success (with_reducible refine (id : pMin _ _ → pMin _ _) ?_)); (fail_if_success (with_reducible refine (id : pSort2 _ _ → pSort2 _ _) ?_)); (fail_if_success (with_reducible refine (id : pRepr _ _ → pRepr _ _) ?_)); (fail_if_success (with_reducible refine (id : pSl _ _ → pSl _ _) ?_)); (fail_if_success (with_reducible refine (id : pIn _ _ → pIn _ _) ?_)); (fail_if_success (with_reducible refine (id : pNin _ _ → pNin _ _) ?_)); (fail_if_success (with_reducible refine (id : φDraw _ _ _ → φDraw _ _ _) ?_)); (fail_if_success (with_reducible refine (id : φ__law_jumps _ _ _ → φ__law_jumps _ _ _) ?_)); (fail_if_success (with_reducible refine (id : φ__law_way _ _ _ → φ__law_way _ _ _) ?_)); (fail_if_success (with_reducible refine (id : φ_serves _ _ _ → φ_serves _ _ _) ?_)); (fail_if_success (with_reducible refine (id : φ_stuck _ _ _ → φ_stuck _ _ _) ?_)); first | refine ⟨rfl, ?_⟩ | refine ⟨_, rfl, ?_⟩ | refine ⟨_, rfl, rfl, ?_⟩ | refine ⟨_, _, rfl, ?_⟩ | refine ⟨_, _, rfl, rfl, ?_⟩ | refine ⟨⟨_, _, rfl⟩, ?_⟩ | refine ⟨_, _, _, rfl, rfl, ?_⟩ | refine ⟨_, _, _, rfl, ?_⟩ | refine And.intro (by omega) ?_ | refine And.intro ⟨by omega, by omega⟩ ?_ | refine And.intro (by assumption) ?_ | refine And.intro (sz (by first | omega | (simp only [List.length_append, List.length_cons, List.length_nil, List.length_map, dInts_len, List.length_set]; omega))) ?_ | refine And.intro (szl (by first | omega | (simp only [List.length_append, List.length_cons, List.length_nil, List.length_map, dInts_len, List.length_set]; omega))) ?_ | fail) | fail))
            rw [z3]
            (repeat' ((fail_if_success (with_reducible refine ForI.stop ?_)); (fail_if_success (with_reducible refine CompI.stop ?_)); (fail_if_success (with_reducible refine whileI.stop ?_)); first | ((with_reducible refine (id : φ_stuck _ _ _ → φ_stuck _ _ _) ?_); first | refine ⟨(_, _, _, _, _), rfl, ⟨by assumption, by omega, by first | exact .inl rfl | exact .inr rfl | assumption, by omega⟩, ?_⟩ | refine ⟨(_, _, _, _, _), rfl, ⟨(‹PrOk _ _ _›).ok, by have := (‹PrOk _ _ _›).ll; omega, by first | exact .inl rfl | exact .inr rfl | assumption, by omega⟩, ?_⟩ | fail) | ((with_reducible refine (id : φ_serves _ _ _ → φ_serves _ _ _) ?_); first | refine ⟨(_, _, _, _, _), rfl, ⟨by assumption, by omega, by first | exact .inl rfl | exact .inr rfl | assumption, by omega⟩, ?_⟩ | refine ⟨(_, _, _, _, _), rfl, ⟨(‹PrOk _ _ _›).ok, by have := (‹PrOk _ _ _›).ll; omega, by first | exact .inl rfl | exact .inr rfl | assumption, by omega⟩, ?_⟩ | fail) | ((with_reducible refine (id : φ__law_way _ _ _ → φ__law_way _ _ _) ?_); first | refine φ__law_way_go (by assumption) (by assumption) (by first | exact .inl rfl | exact .inr rfl | assumption) (by omega) (by omega) ?_ | fail) | ((with_reducible refine (id : φ__law_jumps _ _ _ → φ__law_jumps _ _ _) ?_); first | refine ⟨_, rfl, by have := (‹SkOk _›).1; omega, ?_⟩ | fail) | ((with_reducible refine (id : pEq _ _ → pEq _ _) ?_); first | refine pEq_strT ?_ | refine pEq_int ?_ | refine pEq_str ?_ | refine pEq_nils ?_ | refine pEq_nilt ?_ | fail) | ((with_reducible refine (id : pNe _ _ → pNe _ _) ?_); first | refine pNe_strF ?_ | refine pNe_int ?_ | refine pNe_str ?_ | refine pNe_nils ?_ | refine pNe_nilt ?_ | fail) | ((with_reducible refine (id : pLt _ _ → pLt _ _) ?_); first | refine pLt_int ?_ | fail) | ((with_reducible refine (id : pGt _ _ → pGt _ _) ?_); first | refine pGt_int ?_ | fail) | ((with_reducible refine (id : pLe _ _ → pLe _ _) ?_); first | refine pLe_int ?_ | fail) | ((with_reducible refine (id : pGe _ _ → pGe _ _) ?_); first | refine pGe_int ?_ | fail) | ((with_reducible refine (id : pMul _ _ → pMul _ _) ?_); first | refine ⟨.inl ⟨by omega, by omega⟩, ?_⟩ | refine ⟨.inr ⟨by omega, by omega⟩, ?_⟩ | fail) | ((with_reducible refine (id : pMod _ _ → pMod _ _) ?_); first | refine ⟨_, _, rfl, by omega, ?_⟩ | fail) | ((with_reducible refine (id : pDiv _ _ → pDiv _ _) ?_); first | refine ⟨_, _, rfl, ⟨by omega, by omega⟩, ?_⟩ | fail) | ((with_reducible refine (id : pPow _ _ → pPow _ _) ?_); first | refine ⟨_, _, rfl, ⟨by decide, by decide, by decide⟩, ?_⟩ | fail) | ((with_reducible refine (id : pSub _ _ → pSub _ _) ?_); first | refine ⟨_, _, rfl, ?_⟩ | fail) | ((with_reducible refine (id : pIx _ _ → pIx _ _) ?_); first | refine ⟨_, rfl, ?_⟩ | refine ⟨_, dSk_at (by assumption), ?_⟩ | refine ⟨_, nums_at (by omega), ?_⟩ | refine ⟨_, nats_at (by omega), ?_⟩ | refine ⟨_, nums_first (by omega), ?_⟩ | refine ⟨_, nums_last (by omega), ?_⟩ | fail) | ((with_reducible refine (id : φMake _ _ _ → φMake _ _ _) ?_); first | refine ⟨_, rfl, by omega, ?_⟩ | fail) | ((with_reducible refine (id : pMax _ _ → pMax _ _) ?_); first | refine pMax2 ?_ | fail) | ((with_reducible refine (id : pMin _ _ → pMin _ _) ?_); first | refine pMin2 ?_ | fail) | ((with_reducible refine (id : pSort2 _ _ → pSort2 _ _) ?_); first | refine pSort2_l ?_ | refine pSort2_t ?_ | fail) | ((with_reducible refine (id : pRepr _ _ → pRepr _ _) ?_); first | refine Nice.rp (by assumption) (by decide) (by decide) ?_ | refine (Nice.int (by omega) (by omega)).rp (by decide) (by decide) ?_ | fail) | ((with_reducible refine (id : pSl _ _ → pSl _ _) ?_); first | refine ⟨_, _, rfl, rfl, ?_⟩ | fail) | ((with_reducible refine (id : pIn _ _ → pIn _ _) ?_); first | refine pIn_row (by first | exact .inl rfl | exact .inr rfl | assumption) ?_ | fail) | ((with_reducible refine (id : pNin _ _ → pNin _ _) ?_); first | refine pNin_row (by first | exact .inl rfl | exact .inr rfl | assumption) ?_ | fail) | ((with_reducible refine (id : φDraw _ _ _ → φDraw _ _ _) ?_); first | refine ⟨_, rfl, by first | decide | omega, by first | decide | omega, fun i hi => ?_⟩ | fail) | (refine ⟨(rfl : ltB _ _), ?_⟩; try dsimp only [upds, putBack, backSl, wipeS, keepS, List.set_cons_zero, List.set_cons_succ, getD_s, getD_z, List.cons_append, List.nil_append, List.replicate, List.reduceReplicate, R.sl]) | ((with_reducible refine (id : @ite _ _ _ _ _ → @ite _ _ _ _ _) ?_); first | refine iteT rfl ?_ | refine iteF rfl ?_ | refine iteB (fun hh => ?_) (fun hh => ?_) | refine iteb (fun hh => ?_) (fun hh => ?_) | fail) | ((fail_if_success (with_reducible refine (id : pEq _ _ → pEq _ _) ?_)); (fail_if_success (with_reducible refine (id : pNe _ _ → pNe _ _) ?_)); (fail_if_success (with_reducible refine (id : pLt _ _ → pLt _ _) ?_)); (fail_if_success (with_reducible refine (id : pGt _ _ → pGt _ _) ?_)); (fail_if_success (with_reducible refine (id : pLe _ _ → pLe _ _) ?_)); (fail_if_success (with_reducible refine (id : pGe _ _ → pGe _ _) ?_)); (fail_if_success (with_reducible refine (id : pMul _ _ → pMul _ _) ?_)); (fail_if_success (with_reducible refine (id : pMod _ _ → pMod _ _) ?_)); (fail_if_success (with_reducible refine (id : pDiv _ _ → pDiv _ _) ?_)); (fail_if_success (with_reducible refine (id : pPow _ _ → pPow _ _) ?_)); (fail_if_success (with_reducible refine (id : pSub _ _ → pSub _ _) ?_)); (fail_if_success (with_reducible refine (id : pIx _ _ → pIx _ _) ?_)); (fail_if_success (with_reducible refine (id : φMake _ _ _ → φMake _ _ _) ?_)); (fail_if_success (with_reducible refine (id : pMax _ _ → pMax _ _) ?_)); (fail_if_success (with_reducible refine (id : pMin _ _ → pMin _ _) ?_)); (fail_if_success (with_reducible refine (id : pSort2 _ _ → pSort2 _ _) ?_)); (fail_if_success (with_reducible refine (id : pRepr _ _ → pRepr _ _) ?_)); (fail_if_success (with_reducible refine (id : pSl _ _ → pSl _ _) ?_)); (fail_if_success (with_reducible refine (id : pIn _ _ → pIn _ _) ?_)); (fail_if_success (with_reducible refine (id : pNin _ _ → pNin _ _) ?_)); (fail_if_success (with_reducible refine (id : φDraw _ _ _ → φDraw _ _ _) ?_)); (fail_if_success (with_reducible refine (id : φ__law_jumps _ _ _ → φ__law_jumps _ _ _) ?_)); (fail_if_success (with_reducible refine (id : φ__law_way _ _ _ → φ__law_way _ _ _) ?_)); (fail_if_success (with_reducible refine (id : φ_serves _ _ _ → φ_serves _ _ _) ?_)); (fail_if_success (with_reducible refine (id : φ_stuck _ _ _ → φ_stuck _ _ _) ?_)); first | refine ⟨rfl, ?_⟩ | refine ⟨_, rfl, ?_⟩ | refine ⟨_, rfl, rfl, ?_⟩ | refine ⟨_, _, rfl, ?_⟩ | refine ⟨_, _, rfl, rfl, ?_⟩ | refine ⟨⟨_, _, rfl⟩, ?_⟩ | refine ⟨_, _, _, rfl, rfl, ?_⟩ | refine ⟨_, _, _, rfl, ?_⟩ | refine And.intro (by omega) ?_ | refine And.intro ⟨by omega, by omega⟩ ?_ | refine And.intro (by assumption) ?_ | refine And.intro (sz (by first | omega | (simp only [List.length_append, List.length_cons, List.length_nil, List.length_map, dInts_len, List.length_set]; omega))) ?_ | refine And.intro (szl (by first | omega | (simp only [List.length_append, List.length_cons, List.length_nil, List.length_map, dInts_len, List.length_set]; omega))) ?_ | fail) | fail))
            exact q

theorem d__law_is_just {P : Program} {w : World} {K : PySem.W.Frag} {mg : Str → Option Value} {base : Heap} {T : Xd} (z : Txt mg) (F__law_jumps : Fd P w K mg base (Gs K) T 1 1 "_law_jumps" ["skeleton"] [] φ__law_jumps) (F__law_draw : Fd P w K mg base (Gs K) T 1 2 "_law_draw" ["stock", "size"] [] φ__law_draw) (F__law_way : Fd P w K mg base (Gs K) T 2 4 "_law_way" ["skeleton", "lengths", "choice", "jump"] [] φ__law_way) (F_serves : Fd P w K mg base (Gs K) T 4 2 "serves" ["program", "choice"] [["choice", "program"]] φ_serves) (F_stuck : Fd P w K mg base (Gs K) T 3 2 "stuck" ["program", "choice"] [["choice", "program"]] φ_stuck) (W : Wr K mg "_law_is_just" s__law_is_just) : Fd P w K mg base (Gs K) T 5 3 "_law_is_just" ["stock", "program", "choice"] [] φ__law_is_just :=
  Fd.of W sc__law_is_just (fun _ _ _ _ _ _ us hl => match us, hl with | [_, _, _], _ => rfl) bk0 rfl rfl rfl (fun f cdv A outer s H E pl => b__law_is_just z F__law_jumps F__law_draw F__law_way F_serves F_stuck f cdv A outer s H E pl) c__law_is_just φ__law_is_just_mono
def φ_law : Spc := fun as Q _ => ∃ ns : List Int, as = [.scr ns] ∧ ns.length ≤ 63 ∧ Q (.sh (.bool true)) as
theorem φ_law_mono : MonoS φ_law := fun as Q Q' E E' h _ ⟨ns, e, e2, q⟩ => ⟨ns, e, e2, h _ _ q⟩
theorem law_ok (ns : List Int) (h : ns.length ≤ 63) : φ_law [.scr ns] (fun r _ => r = .sh (.bool true)) fun _ _ => False := ⟨ns, rfl, h, rfl⟩

def w_law_2 : WS := seqS (retS (conE (.bool true))) nxS
def w_law_1f3a0 : WS := seqS (retS (conE (.bool false))) nxS
def w_law_1f3 : WS := seqS (ifS (orT (valT (primW pNotB (seqA [ofE (callW φ_serves (seqA [ofE (varE 4), ofE (primW pTup (seqA [vwG 5]))])), ofE (conE (.bool true))]))) (notT (valT (callW φ__law_is_just (seqA [vwG 1, ofE (varE 4), ofE (callW φ__law_some (seqA [vwG 1, ofE (varE 5)]))]))))) (w_law_1f3a0) (nxS)) nxS
def w_law_1f2f0a0 : WS := seqS (retS (conE (.bool false))) nxS
def w_law_1f2f0 : WS := seqS (ifS (notT (valT (callW φ__law_is_told (seqA [ofE (varE 4), ofE (varE 7), ofE (primW pEq (seqA [vwG 6, ofE (primW pMod (seqA [ofE (primW pInt (seqA [vwG 2])), ofE (conE (.int 3))]))]))])))) (w_law_1f2f0a0) (nxS)) nxS
def w_law_1f2 : WS := seqS (forI (enumI (ofE (lstE (seqA [ofE (callW φ__law_some (seqA [vwG 1, ofE (varE 5)])), ofE (tupE (seqA [])), ofE (primW pTup (seqA [vwG 5]))])))) (tupT [6, 7]) (w_law_1f2f0)) w_law_1f3
def w_law_1f1 : WS := seqS (parS2 4 5 (callW φ__law_program (seqA [vwG 1, ofE (varE 3), ofE (primW pEq (seqA [vwG 2, ofE (conE (.int 3))]))])) (callW φ__law_jumps (seqA [ofE (varE 3)]))) w_law_1f2
def w_law_1f0 : WS := seqS (asgS 3 (callW φ__law_skeleton (seqA [vwG 1, ofE (ifE (valT (primW pEq (seqA [vwG 2, ofE (conE (.int 4))]))) (conE (.int 8)) (conE (.int 5))), ofE (ifE (valT (primW pLt (seqA [vwG 2, ofE (conE (.int 4))]))) (conE (.int 10)) (conE (.int 20)))]))) w_law_1f1
def w_law_1 : WS := seqS (forI (rng1I (seqA [ofE (conE (.int 5))])) (nameT 2) (w_law_1f0)) w_law_2
def w_law : WS := seqS (asgS 1 (callW φ__law_stock (seqA [ofE (varE 0)]))) w_law_1
theorem b_law {P : Program} {w : World} {K : PySem.W.Frag} {mg : Str → Option Value} {base : Heap} {G : Wd} {T : Xd} (z : Txt mg) (F__law_stock : Fd P w K mg base G T 1 1 "_law_stock" ["script"] [] φ__law_stock) (F__law_skeleton : Fd P w K mg base G T 4 3 "_law_skeleton" ["stock", "most", "wide"] [] φ__law_skeleton) (F__law_program : Fd P w K mg base G T 4 3 "_law_program" ["stock", "skeleton", "is_great"] [] φ__law_program) (F__law_jumps : Fd P w K mg base G T 1 1 "_law_jumps" ["skeleton"] [] φ__law_jumps) (F__law_some : Fd P w K mg base G T 2 2 "_law_some" ["stock", "row"] [] φ__law_some) (F__law_is_told : Fd P w K mg base G T 5 3 "_law_is_told" ["program", "choice", "is_named"] [] φ__law_is_told) (F_serves : Fd P w K mg base G T 4 2 "serves" ["program", "choice"] [["choice", "program"]] φ_serves) (F__law_is_just : Fd P w K mg base G T 5 3 "_law_is_just" ["stock", "program", "choice"] [] φ__law_is_just) (f : Addr) (cdv : Value) (A : Around) (outer : List Env) (s : Shared) (H : Hp) (E : XK) (pl : Plc G 5 (fun cls d _ H => E cls d H) (cxD P w K mg base ["script", "stock", "turn", "skeleton", "program", "jumps", "nth", "choice"] "law" (defScope s_law) f cdv A outer s H E)) :
    Bs G T (fun cls d _ H => E cls d H) (cxD P w K mg base ["script", "stock", "turn", "skeleton", "program", "jumps", "nth", "choice"] "law" (defScope s_law) f cdv A outer s H E) (defBody s_law) w_law :=
  (bC (sAsg 1 sc_law.nd (eF pl F__law_stock (ha := (aC (vE 0).g aN)))) (bC (sFor pl (iRng1I z.range kI.g) (gN 2 sc_law.nd) (bC (sAsg 3 sc_law.nd (eF pl F__law_skeleton (ha := (aC (vG 1) (aC (eIf (tCmp (cEq pl) (vG 2) kI.g) kI kI).g (aC (eIf (tCmp (cLt pl) (vG 2) kI.g) kI kI).g aN)))))) (bC (sPar2 4 5 pl sc_law.nd (eF pl F__law_program (ha := (aC (vG 1) (aC (vE 3).g (aC (eCmp (cEq pl) (vG 2) kI.g).g aN))))) (eF pl F__law_jumps (ha := (aC (vE 3).g aN)))) (bC (sFor pl (iEnumI pl z.enumerate (eLst (aC (eF pl F__law_some (ha := (aC (vG 1) (aC (vE 5).g aN)))).g (aC (eTup aN).g (aC (bTup pl z.tuple (aC (vG 5) aN)).g aN)))).g) (gT pl (gsC (gN 6 sc_law.nd) (gsC (gN 7 sc_law.nd) gsN))) (bC (sIf (tNot (tVal (eF pl F__law_is_told (ha := (aC (vE 4).g (aC (vE 7).g (aC (eCmp (cEq pl) (vG 6) (bMod (bInt z.int (aC (vG 2) aN)).g kI.g).g).g aN))))))) (bC (sRet kB) bN) bN) bN)) (bC (sIf (tBool (vOr (tCmp (cNotB pl) (eF pl F_serves (ha := (aC (vE 4).g (aC (bTup pl z.tuple (aC (vG 5) aN)).g aN)))).g kB.g) (vOr1 (tNot (tVal (eF pl F__law_is_just (ha := (aC (vG 1) (aC (vE 4).g (aC (eF pl F__law_some (ha := (aC (vG 1) (aC (vE 5).g aN)))).g aN)))))))))) (bC (sRet kB) bN) bN) bN))))) (bC (sRet kB) bN)))
theorem c_law (as : List Sl) (Q : R → List Sl → Prop) (E : Exc → List Sl → Prop) (h : φ_law as Q E) : body 7 w_law as Q E := by
  obtain ⟨ns, rfl, hn, q⟩ := h
  (repeat' ((fail_if_success (with_reducible refine ForI.stop ?_)); (fail_if_success (with_reducible refine CompI.stop ?_)); (fail_if_success (with_reducible refine whileI.stop ?_)); first | ((with_reducible refine (id : φ__law_is_just _ _ _ → φ__law_is_just _ _ _) ?_); first | refine ⟨(_, _, _, _), rfl, ⟨by assumption, by omega, by assumption⟩, ?_⟩ | fail) | ((with_reducible refine (id : φ_serves _ _ _ → φ_serves _ _ _) ?_); first | refine ⟨(_, _, _, _, _), rfl, ⟨by assumption, by omega, by first | exact .inl rfl | exact .inr rfl | assumption, by omega⟩, ?_⟩ | refine ⟨(_, _, _, _, _), rfl, ⟨(‹PrOk _ _ _›).ok, by have := (‹PrOk _ _ _›).ll; omega, by first | exact .inl rfl | exact .inr rfl | assumption, by omega⟩, ?_⟩ | fail) | ((with_reducible refine (id : φ__law_is_told _ _ _ → φ__law_is_told _ _ _) ?_); first | refine ⟨(_, _, _, _, _), rfl, ⟨by assumption, by omega, by assumption⟩, ?_⟩ | fail) | ((with_reducible refine (id : φ__law_some _ _ _ → φ__law_some _ _ _) ?_); first | refine ⟨_, rfl, by first | omega | exact Nat.le_trans (jumps24 (by assumption)) (by decide), fun ch hc hcl => ?_⟩ | fail) | ((with_reducible refine (id : φ__law_jumps _ _ _ → φ__law_jumps _ _ _) ?_); first | refine ⟨_, rfl, by have := (‹SkOk _›).1; omega, ?_⟩ | fail) | ((with_reducible refine (id : φ__law_program _ _ _ → φ__law_program _ _ _) ?_); first | refine ⟨_, _, rfl, by assumption, fun ls rs hp => ?_⟩ | fail) | ((with_reducible refine (id : φ__law_skeleton _ _ _ → φ__law_skeleton _ _ _) ?_); first | refine ⟨_, _, rfl, by first | decide | omega, by first | decide | omega, fun sk hs => ?_⟩ | fail) | ((with_reducible refine (id : φ__law_stock _ _ _ → φ__law_stock _ _ _) ?_); first | refine ⟨_, rfl, by omega, ?_⟩ | fail) | ((with_reducible refine (id : pEq _ _ → pEq _ _) ?_); first | refine pEq_strT ?_ | refine pEq_int ?_ | refine pEq_str ?_ | refine pEq_nils ?_ | refine pEq_nilt ?_ | fail) | ((with_reducible refine (id : pNe _ _ → pNe _ _) ?_); first | refine pNe_strF ?_ | refine pNe_int ?_ | refine pNe_str ?_ | refine pNe_nils ?_ | refine pNe_nilt ?_ | fail) | ((with_reducible refine (id : pLt _ _ → pLt _ _) ?_); first | refine pLt_int ?_ | fail) | ((with_reducible refine (id : pGt _ _ → pGt _ _) ?_); first | refine pGt_int ?_ | fail) | ((with_reducible refine (id : pLe _ _ → pLe _ _) ?_); first | refine pLe_int ?_ | fail) | ((with_reducible refine (id : pGe _ _ → pGe _ _) ?_); first | refine pGe_int ?_ | fail) | ((with_reducible refine (id : pMul _ _ → pMul _ _) ?_); first | refine ⟨.inl ⟨by omega, by omega⟩, ?_⟩ | refine ⟨.inr ⟨by omega, by omega⟩, ?_⟩ | fail) | ((with_reducible refine (id : pMod _ _ → pMod _ _) ?_); first | refine ⟨_, _, rfl, by omega, ?_⟩ | fail) | ((with_reducible refine (id : pDiv _ _ → pDiv _ _) ?_); first | refine ⟨_, _, rfl, ⟨by omega, by omega⟩, ?_⟩ | fail) | ((with_reducible refine (id : pPow _ _ → pPow _ _) ?_); first | refine ⟨_, _, rfl, ⟨by decide, by decide, by decide⟩, ?_⟩ | fail) | ((with_reducible refine (id : pSub _ _ → pSub _ _) ?_); first | refine ⟨_, _, rfl, ?_⟩ | fail) | ((with_reducible refine (id : pIx _ _ → pIx _ _) ?_); first | refine ⟨_, rfl, ?_⟩ | refine ⟨_, dSk_at (by assumption), ?_⟩ | refine ⟨_, nums_at (by omega), ?_⟩ | refine ⟨_, nats_at (by omega), ?_⟩ | refine ⟨_, nums_first (by omega), ?_⟩ | refine ⟨_, nums_last (by omega), ?_⟩ | fail) | ((with_reducible refine (id : φMake _ _ _ → φMake _ _ _) ?_); first | refine ⟨_, rfl, by omega, ?_⟩ | fail) | ((with_reducible refine (id : pMax _ _ → pMax _ _) ?_); first | refine pMax2 ?_ | fail) | ((with_reducible refine (id : pMin _ _ → pMin _ _) ?_); first | refine pMin2 ?_ | fail) | ((with_reducible refine (id : pSort2 _ _ → pSort2 _ _) ?_); first | refine pSort2_l ?_ | refine pSort2_t ?_ | fail) | ((with_reducible refine (id : pRepr _ _ → pRepr _ _) ?_); first | refine Nice.rp (by assumption) (by decide) (by decide) ?_ | refine (Nice.int (by omega) (by omega)).rp (by decide) (by decide) ?_ | fail) | ((with_reducible refine (id : pSl _ _ → pSl _ _) ?_); first | refine ⟨_, _, rfl, rfl, ?_⟩ | fail) | ((with_reducible refine (id : pIn _ _ → pIn _ _) ?_); first | refine pIn_row (by first | exact .inl rfl | exact .inr rfl | assumption) ?_ | fail) | ((with_reducible refine (id : pNin _ _ → pNin _ _) ?_); first | refine pNin_row (by first | exact .inl rfl | exact .inr rfl | assumption) ?_ | fail) | ((with_reducible refine (id : φDraw _ _ _ → φDraw _ _ _) ?_); first | refine ⟨_, rfl, by first | decide | omega, by first | decide | omega, fun i hi => ?_⟩ | fail) | (refine ⟨(rfl : ltB _ _), ?_⟩; try dsimp only [upds, putBack, backSl, wipeS, keepS, List.set_cons_zero, List.set_cons_succ, getD_s, getD_z, List.cons_append, List.nil_append, List.replicate, List.reduceReplicate, R.sl]) | ((with_reducible refine (id : @ite _ _ _ _ _ → @ite _ _ _ _ _) ?_); first | refine iteT rfl ?_ | refine iteF rfl ?_ | refine iteB (fun hh => ?_) (fun hh => ?_) | refine iteb (fun hh => ?_) (fun hh => ?_) | fail) | ((fail_if_success (with_reducible refine (id : pEq _ _ → pEq _ _) ?_)); (fail_if_success (with_reducible refine (id : pNe _ _ → pNe _ _) ?_)); (fail_if_success (with_reducible refine (id : pLt _ _ → pLt _ _) ?_)); (fail_if_success (with_reducible refine (id : pGt _ _ → pGt _ _) ?_)); (fail_if_success (with_reducible refine (id : pLe _ _ → pLe _ _) ?_)); (fail_if_success (with_reducible refine (id : pGe _ _ → pGe _ _) ?_)); (fail_if_success (with_reducible refine (id : pMul _ _ → pMul _ _) ?_)); (fail_if_success (with_reducible refine (id : pMod _ _ → pMod _ _) ?_)); (fail_if_success (with_reducible refine (id : pDiv _ _ → pDiv _ _) ?_)); (fail_if_success (with_reducible refine (id : pPow _ _ → pPow _ _) ?_)); (fail_if_success (with_reducible refine (id : pSub _ _ → pSub _ _) ?_)); (fail_if_success (with_reducible refine (id : pIx _ _ → pIx _ _) ?_)); (fail_if_success (with_reducible refine (id : φMake _ _ _ → φMake _ _ _) ?_)); (fail_if_success (with_reducible refine (id : pMax _ _ → pMax _ _) ?_)); (fail_if_success (with_reducible refine (id : pMin _ _ → pMin _ _) ?_)); (fail_if_success (with_reducible refine (id : pSort2 _ _ → pSort2 _ _) ?_)); (fail_if_success (with_reducible refine (id : pRepr _ _ → pRepr _ _) ?_)); (fail_if_success (with_reducible refine (id : pSl _ _ → pSl _ _) ?_)); (fail_if_success (with_reducible refine (id : pIn _ _ → pIn _ _) ?_)); (fail_if_success (with_reducible refine (id : pNin _ _ → pNin _ _) ?_)); (fail_if_success (with_reducible refine (id : φDraw _ _ _ → φDraw _ _ _) ?_)); (fail_if_success (with_reducible refine (id : φ__law_stock _ _ _ → φ__law_stock _ _ _) ?_)); (fail_if_success (with_reducible refine (id : φ__law_skeleton _ _ _ → φ__law_skeleton _ _ _) ?_)); (fail_if_success (with_reducible refine (id : φ__law_program _ _ _ → φ__law_program _ _ _) ?_)); (fail_if_success (with_reducible refine (id : φ__law_jumps _ _ _ → φ__law_jumps _ _ _) ?_)); (fail_if_success (with_reducible refine (id : φ__law_some _ _ _ → φ__law_some _ _ _) ?_)); (fail_if_success (with_reducible refine (id : φ__law_is_told _ _ _ → φ__law_is_told _ _ _) ?_)); (fail_if_success (with_reducible refine (id : φ_serves _ _ _ → φ_serves _ _ _) ?_)); (fail_if_success (with_reducible refine (id : φ__law_is_just _ _ _ → φ__law_is_just _ _ _) ?_)); first | refine ⟨rfl, ?_⟩ | refine ⟨_, rfl, ?_⟩ | refine ⟨_, rfl, rfl, ?_⟩ | refine ⟨_, _, rfl, ?_⟩ | refine ⟨_, _, rfl, rfl, ?_⟩ | refine ⟨⟨_, _, rfl⟩, ?_⟩ | refine ⟨_, _, _, rfl, rfl, ?_⟩ | refine ⟨_, _, _, rfl, ?_⟩ | refine And.intro (by omega) ?_ | refine And.intro ⟨by omega, by omega⟩ ?_ | refine And.intro (by assumption) ?_ | refine And.intro (sz (by first | omega | (simp only [List.length_append, List.length_cons, List.length_nil, List.length_map, dInts_len, List.length_set]; omega))) ?_ | refine And.intro (szl (by first | omega | (simp only [List.length_append, List.length_cons, List.length_nil, List.length_map, dInts_len, List.length_set]; omega))) ?_ | fail) | fail))
  refine ForI.look [2,3,4,5,6,7] (τ := Sl × Sl × Sl × Sl × Sl × Sl) (fun (x0, x1, x2, x3, x4, x5) => [x0, x1, x2, x3, x4, x5]) (fun d => ∃ t : Int, d = .int t) (_, _, _, _, _, _) (by rfl) rng_ints ?_ ?_
  · rintro ⟨b0, b1, b2, b3, b4, b5⟩
    (repeat' ((fail_if_success (with_reducible refine ForI.stop ?_)); (fail_if_success (with_reducible refine CompI.stop ?_)); (fail_if_success (with_reducible refine whileI.stop ?_)); first | ((with_reducible refine (id : φ__law_is_just _ _ _ → φ__law_is_just _ _ _) ?_); first | refine ⟨(_, _, _, _), rfl, ⟨by assumption, by omega, by assumption⟩, ?_⟩ | fail) | ((with_reducible refine (id : φ_serves _ _ _ → φ_serves _ _ _) ?_); first | refine ⟨(_, _, _, _, _), rfl, ⟨by assumption, by omega, by first | exact .inl rfl | exact .inr rfl | assumption, by omega⟩, ?_⟩ | refine ⟨(_, _, _, _, _), rfl, ⟨(‹PrOk _ _ _›).ok, by have := (‹PrOk _ _ _›).ll; omega, by first | exact .inl rfl | exact .inr rfl | assumption, by omega⟩, ?_⟩ | fail) | ((with_reducible refine (id : φ__law_is_told _ _ _ → φ__law_is_told _ _ _) ?_); first | refine ⟨(_, _, _, _, _), rfl, ⟨by assumption, by omega, by assumption⟩, ?_⟩ | fail) | ((with_reducible refine (id : φ__law_some _ _ _ → φ__law_some _ _ _) ?_); first | refine ⟨_, rfl, by first | omega | exact Nat.le_trans (jumps24 (by assumption)) (by decide), fun ch hc hcl => ?_⟩ | fail) | ((with_reducible refine (id : φ__law_jumps _ _ _ → φ__law_jumps _ _ _) ?_); first | refine ⟨_, rfl, by have := (‹SkOk _›).1; omega, ?_⟩ | fail) | ((with_reducible refine (id : φ__law_program _ _ _ → φ__law_program _ _ _) ?_); first | refine ⟨_, _, rfl, by assumption, fun ls rs hp => ?_⟩ | fail) | ((with_reducible refine (id : φ__law_skeleton _ _ _ → φ__law_skeleton _ _ _) ?_); first | refine ⟨_, _, rfl, by first | decide | omega, by first | decide | omega, fun sk hs => ?_⟩ | fail) | ((with_reducible refine (id : φ__law_stock _ _ _ → φ__law_stock _ _ _) ?_); first | refine ⟨_, rfl, by omega, ?_⟩ | fail) | ((with_reducible refine (id : pEq _ _ → pEq _ _) ?_); first | refine pEq_strT ?_ | refine pEq_int ?_ | refine pEq_str ?_ | refine pEq_nils ?_ | refine pEq_nilt ?_ | fail) | ((with_reducible refine (id : pNe _ _ → pNe _ _) ?_); first | refine pNe_strF ?_ | refine pNe_int ?_ | refine pNe_str ?_ | refine pNe_nils ?_ | refine pNe_nilt ?_ | fail) | ((with_reducible refine (id : pLt _ _ → pLt _ _) ?_); first | refine pLt_int ?_ | fail) | ((with_reducible refine (id : pGt _ _ → pGt _ _) ?_); first | refine pGt_int ?_ | fail) | ((with_reducible refine (id : pLe _ _ → pLe _ _) ?_); first | refine pLe_int ?_ | fail) | ((with_reducible refine (id : pGe _ _ → pGe _ _) ?_); first | refine pGe_int ?_ | fail) | ((with_reducible refine (id : pMul _ _ → pMul _ _) ?_); first | refine ⟨.inl ⟨by omega, by omega⟩, ?_⟩ | refine ⟨.inr ⟨by omega, by omega⟩, ?_⟩ | fail) | ((with_reducible refine (id : pMod _ _ → pMod _ _) ?_); first | refine ⟨_, _, rfl, by omega, ?_⟩ | fail) | ((with_reducible refine (id : pDiv _ _ → pDiv _ _) ?_); first | refine ⟨_, _, rfl, ⟨by omega, by omega⟩, ?_⟩ | fail) | ((with_reducible refine (id : pPow _ _ → pPow _ _) ?_); first | refine ⟨_, _, rfl, ⟨by decide, by decide, by decide⟩, ?_⟩ | fail) | ((with_reducible refine (id : pSub _ _ → pSub _ _) ?_); first | refine ⟨_, _, rfl, ?_⟩ | fail) | ((with_reducible refine (id : pIx _ _ → pIx _ _) ?_); first | refine ⟨_, rfl, ?_⟩ | refine ⟨_, dSk_at (by assumption), ?_⟩ | refine ⟨_, nums_at (by omega), ?_⟩ | refine ⟨_, nats_at (by omega), ?_⟩ | refine ⟨_, nums_first (by omega), ?_⟩ | refine ⟨_, nums_last (by omega), ?_⟩ | fail) | ((with_reducible refine (id : φMake _ _ _ → φMake _ _ _) ?_); first | refine ⟨_, rfl, by omega, ?_⟩ | fail) | ((with_reducible refine (id : pMax _ _ → pMax _ _) ?_); first | refine pMax2 ?_ | fail) | ((with_reducible refine (id : pMin _ _ → pMin _ _) ?_); first | refine pMin2 ?_ | fail) | ((with_reducible refine (id : pSort2 _ _ → pSort2 _ _) ?_); first | refine pSort2_l ?_ | refine pSort2_t ?_ | fail) | ((with_reducible refine (id : pRepr _ _ → pRepr _ _) ?_); first | refine Nice.rp (by assumption) (by decide) (by decide) ?_ | refine (Nice.int (by omega) (by omega)).rp (by decide) (by decide) ?_ | fail) | ((with_reducible refine (id : pSl _ _ → pSl _ _) ?_); first | refine ⟨_, _, rfl, rfl, ?_⟩ | fail) | ((with_reducible refine (id : pIn _ _ → pIn _ _) ?_); first | refine pIn_row (by first | exact .inl rfl | exact .inr rfl | assumption) ?_ | fail) | ((with_reducible refine (id : pNin _ _ → pNin _ _) ?_); first | refine pNin_row (by first | exact .inl rfl | exact .inr rfl | assumption) ?_ | fail) | ((with_reducible refine (id : φDraw _ _ _ → φDraw _ _ _) ?_); first | refine ⟨_, rfl, by first | decide | omega, by first | decide | omega, fun i hi => ?_⟩ | fail) | (refine ⟨(rfl : ltB _ _), ?_⟩; try dsimp only [upds, putBack, backSl, wipeS, keepS, List.set_cons_zero, List.set_cons_succ, getD_s, getD_z, List.cons_append, List.nil_append, List.replicate, List.reduceReplicate, R.sl]) | ((with_reducible refine (id : @ite _ _ _ _ _ → @ite _ _ _ _ _) ?_); first | refine iteT rfl ?_ | refine iteF rfl ?_ | refine iteB (fun hh => ?_) (fun hh => ?_) | refine iteb (fun hh => ?_) (fun hh => ?_) | fail) | ((fail_if_success (with_reducible refine (id : pEq _ _ → pEq _ _) ?_)); (fail_if_success (with_reducible refine (id : pNe _ _ → pNe _ _) ?_)); (fail_if_success (with_reducible refine (id : pLt _ _ → pLt _ _) ?_)); (fail_if_success (with_reducible refine (id : pGt _ _ → pGt _ _) ?_)); (fail_if_success (with_reducible refine (id : pLe _ _ → pLe _ _) ?_)); (fail_if_success (with_reducible refine (id : pGe _ _ → pGe _ _) ?_)); (fail_if_success (with_reducible refine (id : pMul _ _ → pMul _ _) ?_)); (fail_if_success (with_reducible refine (id : pMod _ _ → pMod _ _) ?_)); (fail_if_success (with_reducible refine (id : pDiv _ _ → pDiv _ _) ?_)); (fail_if_success (with_reducible refine (id : pPow _ _ → pPow _ _) ?_)); (fail_if_success (with_reducible refine (id : pSub _ _ → pSub _ _) ?_)); (fail_if_success (with_reducible refine (id : pIx _ _ → pIx _ _) ?_)); (fail_if_success (with_reducible refine (id : φMake _ _ _ → φMake _ _ _) ?_)); (fail_if_success (with_reducible refine (id : pMax _ _ → pMax _ _) ?_)); (fail_if_success (with_reducible refine (id : pMin _ _ → pMin _ _) ?_)); (fail_if_success (with_reducible refine (id : pSort2 _ _ → pSort2 _ _) ?_)); (fail_if_success (with_reducible refine (id : pRepr _ _ → pRepr _ _) ?_)); (fail_if_success (with_reducible refine (id : pSl _ _ → pSl _ _) ?_)); (fail_if_success (with_reducible refine (id : pIn _ _ → pIn _ _) ?_)); (fail_if_success (with_reducible refine (id : pNin _ _ → pNin _ _) ?_)); (fail_if_success (with_reducible refine (id : φDraw _ _ _ → φDraw _ _ _) ?_)); (fail_if_success (with_reducible refine (id : φ__law_stock _ _ _ → φ__law_stock _ _ _) ?_)); (fail_if_success (with_reducible refine (id : φ__law_skeleton _ _ _ → φ__law_skeleton _ _ _) ?_)); (fail_if_success (with_reducible refine (id : φ__law_program _ _ _ → φ__law_program _ _ _) ?_)); (fail_if_success (with_reducible refine (id : φ__law_jumps _ _ _ → φ__law_jumps _ _ _) ?_)); (fail_if_success (with_reducible refine (id : φ__law_some _ _ _ → φ__law_some _ _ _) ?_)); (fail_if_success (with_reducible refine (id : φ__law_is_told _ _ _ → φ__law_is_told _ _ _) ?_)); (fail_if_success (with_reducible refine (id : φ_serves _ _ _ → φ_serves _ _ _) ?_)); (fail_if_success (with_reducible refine (id : φ__law_is_just _ _ _ → φ__law_is_just _ _ _) ?_)); first | refine ⟨rfl, ?_⟩ | refine ⟨_, rfl, ?_⟩ | refine ⟨_, rfl, rfl, ?_⟩ | refine ⟨_, _, rfl, ?_⟩ | refine ⟨_, _, rfl, rfl, ?_⟩ | refine ⟨⟨_, _, rfl⟩, ?_⟩ | refine ⟨_, _, _, rfl, rfl, ?_⟩ | refine ⟨_, _, _, rfl, ?_⟩ | refine And.intro (by omega) ?_ | refine And.intro ⟨by omega, by omega⟩ ?_ | refine And.intro (by assumption) ?_ | refine And.intro (sz (by first | omega | (simp only [List.length_append, List.length_cons, List.length_nil, List.length_map, dInts_len, List.length_set]; omega))) ?_ | refine And.intro (szl (by first | omega | (simp only [List.length_append, List.length_cons, List.length_nil, List.length_map, dInts_len, List.length_set]; omega))) ?_ | fail) | fail))
    exact q
  · rintro d ⟨b0, b1, b2, b3, b4, b5⟩ N ⟨t, rfl⟩ hN
    (repeat' ((fail_if_success (with_reducible refine ForI.stop ?_)); (fail_if_success (with_reducible refine CompI.stop ?_)); (fail_if_success (with_reducible refine whileI.stop ?_)); first | ((with_reducible refine (id : φ__law_is_just _ _ _ → φ__law_is_just _ _ _) ?_); first | refine ⟨(_, _, _, _), rfl, ⟨by assumption, by omega, by assumption⟩, ?_⟩ | fail) | ((with_reducible refine (id : φ_serves _ _ _ → φ_serves _ _ _) ?_); first | refine ⟨(_, _, _, _, _), rfl, ⟨by assumption, by omega, by first | exact .inl rfl | exact .inr rfl | assumption, by omega⟩, ?_⟩ | refine ⟨(_, _, _, _, _), rfl, ⟨(‹PrOk _ _ _›).ok, by have := (‹PrOk _ _ _›).ll; omega, by first | exact .inl rfl | exact .inr rfl | assumption, by omega⟩, ?_⟩ | fail) | ((with_reducible refine (id : φ__law_is_told _ _ _ → φ__law_is_told _ _ _) ?_); first | refine ⟨(_, _, _, _, _), rfl, ⟨by assumption, by omega, by assumption⟩, ?_⟩ | fail) | ((with_reducible refine (id : φ__law_some _ _ _ → φ__law_some _ _ _) ?_); first | refine ⟨_, rfl, by first | omega | exact Nat.le_trans (jumps24 (by assumption)) (by decide), fun ch hc hcl => ?_⟩ | fail) | ((with_reducible refine (id : φ__law_jumps _ _ _ → φ__law_jumps _ _ _) ?_); first | refine ⟨_, rfl, by have := (‹SkOk _›).1; omega, ?_⟩ | fail) | ((with_reducible refine (id : φ__law_program _ _ _ → φ__law_program _ _ _) ?_); first | refine ⟨_, _, rfl, by assumption, fun ls rs hp => ?_⟩ | fail) | ((with_reducible refine (id : φ__law_skeleton _ _ _ → φ__law_skeleton _ _ _) ?_); first | refine ⟨_, _, rfl, by first | decide | omega, by first | decide | omega, fun sk hs => ?_⟩ | fail) | ((with_reducible refine (id : φ__law_stock _ _ _ → φ__law_stock _ _ _) ?_); first | refine ⟨_, rfl, by omega, ?_⟩ | fail) | ((with_reducible refine (id : pEq _ _ → pEq _ _) ?_); first | refine pEq_strT ?_ | refine pEq_int ?_ | refine pEq_str ?_ | refine pEq_nils ?_ | refine pEq_nilt ?_ | fail) | ((with_reducible refine (id : pNe _ _ → pNe _ _) ?_); first | refine pNe_strF ?_ | refine pNe_int ?_ | refine pNe_str ?_ | refine pNe_nils ?_ | refine pNe_nilt ?_ | fail) | ((with_reducible refine (id : pLt _ _ → pLt _ _) ?_); first | refine pLt_int ?_ | fail) | ((with_reducible refine (id : pGt _ _ → pGt _ _) ?_); first | refine pGt_int ?_ | fail) | ((with_reducible refine (id : pLe _ _ → pLe _ _) ?_); first | refine pLe_int ?_ | fail) | ((with_reducible refine (id : pGe _ _ → pGe _ _) ?_); first | refine pGe_int ?_ | fail) | ((with_reducible refine (id : pMul _ _ → pMul _ _) ?_); first | refine ⟨.inl ⟨by omega, by omega⟩, ?_⟩ | refine ⟨.inr ⟨by omega, by omega⟩, ?_⟩ | fail) | ((with_reducible refine (id : pMod _ _ → pMod _ _) ?_); first | refine ⟨_, _, rfl, by omega, ?_⟩ | fail) | ((with_reducible refine (id : pDiv _ _ → pDiv _ _) ?_); first | refine ⟨_, _, rfl, ⟨by omega, by omega⟩, ?_⟩ | fail) | ((with_reducible refine (id : pPow _ _ → pPow _ _) ?_); first | refine ⟨_, _, rfl, ⟨by decide, by decide, by decide⟩, ?_⟩ | fail) | ((with_reducible refine (id : pSub _ _ → pSub _ _) ?_); first | refine ⟨_, _, rfl, ?_⟩ | fail) | ((with_reducible refine (id : pIx _ _ → pIx _ _) ?_); first | refine ⟨_, rfl, ?_⟩ | refine ⟨_, dSk_at (by assumption), ?_⟩ | refine ⟨_, nums_at (by omega), ?_⟩ | refine ⟨_, nats_at (by omega), ?_⟩ | refine ⟨_, nums_first (by omega), ?_⟩ | refine ⟨_, nums_last (by omega), ?_⟩ | fail) | ((with_reducible refine (id : φMake _ _ _ → φMake _ _ _) ?_); first | refine ⟨_, rfl, by omega, ?_⟩ | fail) | ((with_reducible refine (id : pMax _ _ → pMax _ _) ?_); first | refine pMax2 ?_ | fail) | ((with_reducible refine (id : pMin _ _ → pMin _ _) ?_); first | refine pMin2 ?_ | fail) | ((with_reducible refine (id : pSort2 _ _ → pSort2 _ _) ?_); first | refine pSort2_l ?_ | refine pSort2_t ?_ | fail) | ((with_reducible refine (id : pRepr _ _ → pRepr _ _) ?_); first | refine Nice.rp (by assumption) (by decide) (by decide) ?_ | refine (Nice.int (by omega) (by omega)).rp (by decide) (by decide) ?_ | fail) | ((with_reducible refine (id : pSl _ _ → pSl _ _) ?_); first | refine ⟨_, _, rfl, rfl, ?_⟩ | fail) | ((with_reducible refine (id : pIn _ _ → pIn _ _) ?_); first | refine pIn_row (by first | exact .inl rfl | exact .inr rfl | assumption) ?_ | fail) | ((with_reducible refine (id : pNin _ _ → pNin _ _) ?_); first | refine pNin_row (by first | exact .inl rfl | exact .inr rfl | assumption) ?_ | fail) | ((with_reducible refine (id : φDraw _ _ _ → φDraw _ _ _) ?_); first | refine ⟨_, rfl, by first | decide | omega, by first | decide | omega, fun i hi => ?_⟩ | fail) | (refine ⟨(rfl : ltB _ _), ?_⟩; try dsimp only [upds, putBack, backSl, wipeS, keepS, List.set_cons_zero, List.set_cons_succ, getD_s, getD_z, List.cons_append, List.nil_append, List.replicate, List.reduceReplicate, R.sl]) | ((with_reducible refine (id : @ite _ _ _ _ _ → @ite _ _ _ _ _) ?_); first | refine iteT rfl ?_ | refine iteF rfl ?_ | refine iteB (fun hh => ?_) (fun hh => ?_) | refine iteb (fun hh => ?_) (fun hh => ?_) | fail) | ((fail_if_success (with_reducible refine (id : pEq _ _ → pEq _ _) ?_)); (fail_if_success (with_reducible refine (id : pNe _ _ → pNe _ _) ?_)); (fail_if_success (with_reducible refine (id : pLt _ _ → pLt _ _) ?_)); (fail_if_success (with_reducible refine (id : pGt _ _ → pGt _ _) ?_)); (fail_if_success (with_reducible refine (id : pLe _ _ → pLe _ _) ?_)); (fail_if_success (with_reducible refine (id : pGe _ _ → pGe _ _) ?_)); (fail_if_success (with_reducible refine (id : pMul _ _ → pMul _ _) ?_)); (fail_if_success (with_reducible refine (id : pMod _ _ → pMod _ _) ?_)); (fail_if_success (with_reducible refine (id : pDiv _ _ → pDiv _ _) ?_)); (fail_if_success (with_reducible refine (id : pPow _ _ → pPow _ _) ?_)); (fail_if_success (with_reducible refine (id : pSub _ _ → pSub _ _) ?_)); (fail_if_success (with_reducible refine (id : pIx _ _ → pIx _ _) ?_)); (fail_if_success (with_reducible refine (id : φMake _ _ _ → φMake _ _ _) ?_)); (fail_if_success (with_reducible refine (id : pMax _ _ → pMax _ _) ?_)); (fail_if_success (with_reducible refine (id : pMin _ _ → pMin _ _) ?_)); (fail_if_success (with_reducible refine (id : pSort2 _ _ → pSort2 _ _) ?_)); (fail_if_success (with_reducible refine (id : pRepr _ _ → pRepr _ _) ?_)); (fail_if_success (with_reducible refine (id : pSl _ _ → pSl _ _) ?_)); (fail_if_success (with_reducible refine (id : pIn _ _ → pIn _ _) ?_)); (fail_if_success (with_reducible refine (id : pNin _ _ → pNin _ _) ?_)); (fail_if_success (with_reducible refine (id : φDraw _ _ _ → φDraw _ _ _) ?_)); (fail_if_success (with_reducible refine (id : φ__law_stock _ _ _ → φ__law_stock _ _ _) ?_)); (fail_if_success (with_reducible refine (id : φ__law_skeleton _ _ _ → φ__law_skeleton _ _ _) ?_)); (fail_if_success (with_reducible refine (id : φ__law_program _ _ _ → φ__law_program _ _ _) ?_)); (fail_if_success (with_reducible refine (id : φ__law_jumps _ _ _ → φ__law_jumps _ _ _) ?_)); (fail_if_success (with_reducible refine (id : φ__law_some _ _ _ → φ__law_some _ _ _) ?_)); (fail_if_success (with_reducible refine (id : φ__law_is_told _ _ _ → φ__law_is_told _ _ _) ?_)); (fail_if_success (with_reducible refine (id : φ_serves _ _ _ → φ_serves _ _ _) ?_)); (fail_if_success (with_reducible refine (id : φ__law_is_just _ _ _ → φ__law_is_just _ _ _) ?_)); first | refine ⟨rfl, ?_⟩ | refine ⟨_, rfl, ?_⟩ | refine ⟨_, rfl, rfl, ?_⟩ | refine ⟨_, _, rfl, ?_⟩ | refine ⟨_, _, rfl, rfl, ?_⟩ | refine ⟨⟨_, _, rfl⟩, ?_⟩ | refine ⟨_, _, _, rfl, rfl, ?_⟩ | refine ⟨_, _, _, rfl, ?_⟩ | refine And.intro (by omega) ?_ | refine And.intro ⟨by omega, by omega⟩ ?_ | refine And.intro (by assumption) ?_ | refine And.intro (sz (by first | omega | (simp only [List.length_append, List.length_cons, List.length_nil, List.length_map, dInts_len, List.length_set]; omega))) ?_ | refine And.intro (szl (by first | omega | (simp only [List.length_append, List.length_cons, List.length_nil, List.length_map, dInts_len, List.length_set]; omega))) ?_ | fail) | fail))
    all_goals
      have jl := jumps24 hs
      refine ForI.look [6,7] (τ := Sl × Sl) (fun (x0, x1) => [x0, x1]) (fun d => ∃ (i : Nat) (ch : List Nat), d = .tuple [.int i, .tuple (dInts ch)] ∧ ch.Sublist (jumpsOf 0 sk)) (_, _) (by rfl) ?_ ?_ ?_
      · intro d hd
        simp only [enumD, List.mem_cons, List.not_mem_nil, or_false] at hd
        rcases hd with rfl | rfl | rfl
        · exact ⟨_, _, rfl, hc⟩
        · exact ⟨_, [], rfl, List.nil_sublist _⟩
        · exact ⟨_, _, rfl, List.Sublist.refl _⟩
      · rintro ⟨c0, c1⟩
        have hz : (stuckOf sk ls rs (jumpsOf 0 sk)).isEmpty = true := by rw [stuck_all]; rfl
        (repeat' ((fail_if_success (with_reducible refine ForI.stop ?_)); (fail_if_success (with_reducible refine CompI.stop ?_)); (fail_if_success (with_reducible refine whileI.stop ?_)); first | ((with_reducible refine (id : φ__law_is_just _ _ _ → φ__law_is_just _ _ _) ?_); first | refine ⟨(_, _, _, _), rfl, ⟨by assumption, by omega, by assumption⟩, ?_⟩ | fail) | ((with_reducible refine (id : φ_serves _ _ _ → φ_serves _ _ _) ?_); first | refine ⟨(_, _, _, _, _), rfl, ⟨by assumption, by omega, by first | exact .inl rfl | exact .inr rfl | assumption, by omega⟩, ?_⟩ | refine ⟨(_, _, _, _, _), rfl, ⟨(‹PrOk _ _ _›).ok, by have := (‹PrOk _ _ _›).ll; omega, by first | exact .inl rfl | exact .inr rfl | assumption, by omega⟩, ?_⟩ | fail) | ((with_reducible refine (id : φ__law_is_told _ _ _ → φ__law_is_told _ _ _) ?_); first | refine ⟨(_, _, _, _, _), rfl, ⟨by assumption, by omega, by assumption⟩, ?_⟩ | fail) | ((with_reducible refine (id : φ__law_some _ _ _ → φ__law_some _ _ _) ?_); first | refine ⟨_, rfl, by first | omega | exact Nat.le_trans (jumps24 (by assumption)) (by decide), fun ch hc hcl => ?_⟩ | fail) | ((with_reducible refine (id : φ__law_jumps _ _ _ → φ__law_jumps _ _ _) ?_); first | refine ⟨_, rfl, by have := (‹SkOk _›).1; omega, ?_⟩ | fail) | ((with_reducible refine (id : φ__law_program _ _ _ → φ__law_program _ _ _) ?_); first | refine ⟨_, _, rfl, by assumption, fun ls rs hp => ?_⟩ | fail) | ((with_reducible refine (id : φ__law_skeleton _ _ _ → φ__law_skeleton _ _ _) ?_); first | refine ⟨_, _, rfl, by first | decide | omega, by first | decide | omega, fun sk hs => ?_⟩ | fail) | ((with_reducible refine (id : φ__law_stock _ _ _ → φ__law_stock _ _ _) ?_); first | refine ⟨_, rfl, by omega, ?_⟩ | fail) | ((with_reducible refine (id : pEq _ _ → pEq _ _) ?_); first | refine pEq_strT ?_ | refine pEq_int ?_ | refine pEq_str ?_ | refine pEq_nils ?_ | refine pEq_nilt ?_ | fail) | ((with_reducible refine (id : pNe _ _ → pNe _ _) ?_); first | refine pNe_strF ?_ | refine pNe_int ?_ | refine pNe_str ?_ | refine pNe_nils ?_ | refine pNe_nilt ?_ | fail) | ((with_reducible refine (id : pLt _ _ → pLt _ _) ?_); first | refine pLt_int ?_ | fail) | ((with_reducible refine (id : pGt _ _ → pGt _ _) ?_); first | refine pGt_int ?_ | fail) | ((with_reducible refine (id : pLe _ _ → pLe _ _) ?_); first | refine pLe_int ?_ | fail) | ((with_reducible refine (id : pGe _ _ → pGe _ _) ?_); first | refine pGe_int ?_ | fail) | ((with_reducible refine (id : pMul _ _ → pMul _ _) ?_); first | refine ⟨.inl ⟨by omega, by omega⟩, ?_⟩ | refine ⟨.inr ⟨by omega, by omega⟩, ?_⟩ | fail) | ((with_reducible refine (id : pMod _ _ → pMod _ _) ?_); first | refine ⟨_, _, rfl, by omega, ?_⟩ | fail) | ((with_reducible refine (id : pDiv _ _ → pDiv _ _) ?_); first | refine ⟨_, _, rfl, ⟨by omega, by omega⟩, ?_⟩ | fail) | ((with_reducible refine (id : pPow _ _ → pPow _ _) ?_); first | refine ⟨_, _, rfl, ⟨by decide, by decide, by decide⟩, ?_⟩ | fail) | ((with_reducible refine (id : pSub _ _ → pSub _ _) ?_); first | refine ⟨_, _, rfl, ?_⟩ | fail) | ((with_reducible refine (id : pIx _ _ → pIx _ _) ?_); first | refine ⟨_, rfl, ?_⟩ | refine ⟨_, dSk_at (by assumption), ?_⟩ | refine ⟨_, nums_at (by omega), ?_⟩ | refine ⟨_, nats_at (by omega), ?_⟩ | refine ⟨_, nums_first (by omega), ?_⟩ | refine ⟨_, nums_last (by omega), ?_⟩ | fail) | ((with_reducible refine (id : φMake _ _ _ → φMake _ _ _) ?_); first | refine ⟨_, rfl, by omega, ?_⟩ | fail) | ((with_reducible refine (id : pMax _ _ → pMax _ _) ?_); first | refine pMax2 ?_ | fail) | ((with_reducible refine (id : pMin _ _ → pMin _ _) ?_); first | refine pMin2 ?_ | fail) | ((with_reducible refine (id : pSort2 _ _ → pSort2 _ _) ?_); first | refine pSort2_l ?_ | refine pSort2_t ?_ | fail) | ((with_reducible refine (id : pRepr _ _ → pRepr _ _) ?_); first | refine Nice.rp (by assumption) (by decide) (by decide) ?_ | refine (Nice.int (by omega) (by omega)).rp (by decide) (by decide) ?_ | fail) | ((with_reducible refine (id : pSl _ _ → pSl _ _) ?_); first | refine ⟨_, _, rfl, rfl, ?_⟩ | fail) | ((with_reducible refine (id : pIn _ _ → pIn _ _) ?_); first | refine pIn_row (by first | exact .inl rfl | exact .inr rfl | assumption) ?_ | fail) | ((with_reducible refine (id : pNin _ _ → pNin _ _) ?_); first | refine pNin_row (by first | exact .inl rfl | exact .inr rfl | assumption) ?_ | fail) | ((with_reducible refine (id : φDraw _ _ _ → φDraw _ _ _) ?_); first | refine ⟨_, rfl, by first | decide | omega, by first | decide | omega, fun i hi => ?_⟩ | fail) | (refine ⟨(rfl : ltB _ _), ?_⟩; try dsimp only [upds, putBack, backSl, wipeS, keepS, List.set_cons_zero, List.set_cons_succ, getD_s, getD_z, List.cons_append, List.nil_append, List.replicate, List.reduceReplicate, R.sl]) | ((with_reducible refine (id : @ite _ _ _ _ _ → @ite _ _ _ _ _) ?_); first | refine iteT rfl ?_ | refine iteF rfl ?_ | refine iteB (fun hh => ?_) (fun hh => ?_) | refine iteb (fun hh => ?_) (fun hh => ?_) | fail) | ((fail_if_success (with_reducible refine (id : pEq _ _ → pEq _ _) ?_)); (fail_if_success (with_reducible refine (id : pNe _ _ → pNe _ _) ?_)); (fail_if_success (with_reducible refine (id : pLt _ _ → pLt _ _) ?_)); (fail_if_success (with_reducible refine (id : pGt _ _ → pGt _ _) ?_)); (fail_if_success (with_reducible refine (id : pLe _ _ → pLe _ _) ?_)); (fail_if_success (with_reducible refine (id : pGe _ _ → pGe _ _) ?_)); (fail_if_success (with_reducible refine (id : pMul _ _ → pMul _ _) ?_)); (fail_if_success (with_reducible refine (id : pMod _ _ → pMod _ _) ?_)); (fail_if_success (with_reducible refine (id : pDiv _ _ → pDiv _ _) ?_)); (fail_if_success (with_reducible refine (id : pPow _ _ → pPow _ _) ?_)); (fail_if_success (with_reducible refine (id : pSub _ _ → pSub _ _) ?_)); (fail_if_success (with_reducible refine (id : pIx _ _ → pIx _ _) ?_)); (fail_if_success (with_reducible refine (id : φMake _ _ _ → φMake _ _ _) ?_)); (fail_if_success (with_reducible refine (id : pMax _ _ → pMax _ _) ?_)); (fail_if_success (with_reducible refine (id : pMin _ _ → pMin _ _) ?_)); (fail_if_success (with_reducible refine (id : pSort2 _ _ → pSort2 _ _) ?_)); (fail_if_success (with_reducible refine (id : pRepr _ _ → pRepr _ _) ?_)); (fail_if_success (with_reducible refine (id : pSl _ _ → pSl _ _) ?_)); (fail_if_success (with_reducible refine (id : pIn _ _ → pIn _ _) ?_)); (fail_if_success (with_reducible refine (id : pNin _ _ → pNin _ _) ?_)); (fail_if_success (with_reducible refine (id : φDraw _ _ _ → φDraw _ _ _) ?_)); (fail_if_success (with_reducible refine (id : φ__law_stock _ _ _ → φ__law_stock _ _ _) ?_)); (fail_if_success (with_reducible refine (id : φ__law_skeleton _ _ _ → φ__law_skeleton _ _ _) ?_)); (fail_if_success (with_reducible refine (id : φ__law_program _ _ _ → φ__law_program _ _ _) ?_)); (fail_if_success (with_reducible refine (id : φ__law_jumps _ _ _ → φ__law_jumps _ _ _) ?_)); (fail_if_success (with_reducible refine (id : φ__law_some _ _ _ → φ__law_some _ _ _) ?_)); (fail_if_success (with_reducible refine (id : φ__law_is_told _ _ _ → φ__law_is_told _ _ _) ?_)); (fail_if_success (with_reducible refine (id : φ_serves _ _ _ → φ_serves _ _ _) ?_)); (fail_if_success (with_reducible refine (id : φ__law_is_just _ _ _ → φ__law_is_just _ _ _) ?_)); first | refine ⟨rfl, ?_⟩ | refine ⟨_, rfl, ?_⟩ | refine ⟨_, rfl, rfl, ?_⟩ | refine ⟨_, _, rfl, ?_⟩ | refine ⟨_, _, rfl, rfl, ?_⟩ | refine ⟨⟨_, _, rfl⟩, ?_⟩ | refine ⟨_, _, _, rfl, rfl, ?_⟩ | refine ⟨_, _, _, rfl, ?_⟩ | refine And.intro (by omega) ?_ | refine And.intro ⟨by omega, by omega⟩ ?_ | refine And.intro (by assumption) ?_ | refine And.intro (sz (by first | omega | (simp only [List.length_append, List.length_cons, List.length_nil, List.length_map, dInts_len, List.length_set]; omega))) ?_ | refine And.intro (szl (by first | omega | (simp only [List.length_append, List.length_cons, List.length_nil, List.length_map, dInts_len, List.length_set]; omega))) ?_ | fail) | fail))
        · rw [hz] at *
          contradiction
        · rename_i hcl2
          have c100 := jump_lt hs (by assumption)
          (repeat' ((fail_if_success (with_reducible refine ForI.stop ?_)); (fail_if_success (with_reducible refine CompI.stop ?_)); (fail_if_success (with_reducible refine whileI.stop ?_)); first | ((with_reducible refine (id : φ__law_is_just _ _ _ → φ__law_is_just _ _ _) ?_); first | refine ⟨(_, _, _, _), rfl, ⟨by assumption, by omega, by assumption⟩, ?_⟩ | fail) | ((with_reducible refine (id : φ_serves _ _ _ → φ_serves _ _ _) ?_); first | refine ⟨(_, _, _, _, _), rfl, ⟨by assumption, by omega, by first | exact .inl rfl | exact .inr rfl | assumption, by omega⟩, ?_⟩ | refine ⟨(_, _, _, _, _), rfl, ⟨(‹PrOk _ _ _›).ok, by have := (‹PrOk _ _ _›).ll; omega, by first | exact .inl rfl | exact .inr rfl | assumption, by omega⟩, ?_⟩ | fail) | ((with_reducible refine (id : φ__law_is_told _ _ _ → φ__law_is_told _ _ _) ?_); first | refine ⟨(_, _, _, _, _), rfl, ⟨by assumption, by omega, by assumption⟩, ?_⟩ | fail) | ((with_reducible refine (id : φ__law_some _ _ _ → φ__law_some _ _ _) ?_); first | refine ⟨_, rfl, by first | omega | exact Nat.le_trans (jumps24 (by assumption)) (by decide), fun ch hc hcl => ?_⟩ | fail) | ((with_reducible refine (id : φ__law_jumps _ _ _ → φ__law_jumps _ _ _) ?_); first | refine ⟨_, rfl, by have := (‹SkOk _›).1; omega, ?_⟩ | fail) | ((with_reducible refine (id : φ__law_program _ _ _ → φ__law_program _ _ _) ?_); first | refine ⟨_, _, rfl, by assumption, fun ls rs hp => ?_⟩ | fail) | ((with_reducible refine (id : φ__law_skeleton _ _ _ → φ__law_skeleton _ _ _) ?_); first | refine ⟨_, _, rfl, by first | decide | omega, by first | decide | omega, fun sk hs => ?_⟩ | fail) | ((with_reducible refine (id : φ__law_stock _ _ _ → φ__law_stock _ _ _) ?_); first | refine ⟨_, rfl, by omega, ?_⟩ | fail) | ((with_reducible refine (id : pEq _ _ → pEq _ _) ?_); first | refine pEq_strT ?_ | refine pEq_int ?_ | refine pEq_str ?_ | refine pEq_nils ?_ | refine pEq_nilt ?_ | fail) | ((with_reducible refine (id : pNe _ _ → pNe _ _) ?_); first | refine pNe_strF ?_ | refine pNe_int ?_ | refine pNe_str ?_ | refine pNe_nils ?_ | refine pNe_nilt ?_ | fail) | ((with_reducible refine (id : pLt _ _ → pLt _ _) ?_); first | refine pLt_int ?_ | fail) | ((with_reducible refine (id : pGt _ _ → pGt _ _) ?_); first | refine pGt_int ?_ | fail) | ((with_reducible refine (id : pLe _ _ → pLe _ _) ?_); first | refine pLe_int ?_ | fail) | ((with_reducible refine (id : pGe _ _ → pGe _ _) ?_); first | refine pGe_int ?_ | fail) | ((with_reducible refine (id : pMul _ _ → pMul _ _) ?_); first | refine ⟨.inl ⟨by omega, by omega⟩, ?_⟩ | refine ⟨.inr ⟨by omega, by omega⟩, ?_⟩ | fail) | ((with_reducible refine (id : pMod _ _ → pMod _ _) ?_); first | refine ⟨_, _, rfl, by omega, ?_⟩ | fail) | ((with_reducible refine (id : pDiv _ _ → pDiv _ _) ?_); first | refine ⟨_, _, rfl, ⟨by omega, by omega⟩, ?_⟩ | fail) | ((with_reducible refine (id : pPow _ _ → pPow _ _) ?_); first | refine ⟨_, _, rfl, ⟨by decide, by decide, by decide⟩, ?_⟩ | fail) | ((with_reducible refine (id : pSub _ _ → pSub _ _) ?_); first | refine ⟨_, _, rfl, ?_⟩ | fail) | ((with_reducible refine (id : pIx _ _ → pIx _ _) ?_); first | refine ⟨_, rfl, ?_⟩ | refine ⟨_, dSk_at (by assumption), ?_⟩ | refine ⟨_, nums_at (by omega), ?_⟩ | refine ⟨_, nats_at (by omega), ?_⟩ | refine ⟨_, nums_first (by omega), ?_⟩ | refine ⟨_, nums_last (by omega), ?_⟩ | fail) | ((with_reducible refine (id : φMake _ _ _ → φMake _ _ _) ?_); first | refine ⟨_, rfl, by omega, ?_⟩ | fail) | ((with_reducible refine (id : pMax _ _ → pMax _ _) ?_); first | refine pMax2 ?_ | fail) | ((with_reducible refine (id : pMin _ _ → pMin _ _) ?_); first | refine pMin2 ?_ | fail) | ((with_reducible refine (id : pSort2 _ _ → pSort2 _ _) ?_); first | refine pSort2_l ?_ | refine pSort2_t ?_ | fail) | ((with_reducible refine (id : pRepr _ _ → pRepr _ _) ?_); first | refine Nice.rp (by assumption) (by decide) (by decide) ?_ | refine (Nice.int (by omega) (by omega)).rp (by decide) (by decide) ?_ | fail) | ((with_reducible refine (id : pSl _ _ → pSl _ _) ?_); first | refine ⟨_, _, rfl, rfl, ?_⟩ | fail) | ((with_reducible refine (id : pIn _ _ → pIn _ _) ?_); first | refine pIn_row (by first | exact .inl rfl | exact .inr rfl | assumption) ?_ | fail) | ((with_reducible refine (id : pNin _ _ → pNin _ _) ?_); first | refine pNin_row (by first | exact .inl rfl | exact .inr rfl | assumption) ?_ | fail) | ((with_reducible refine (id : φDraw _ _ _ → φDraw _ _ _) ?_); first | refine ⟨_, rfl, by first | decide | omega, by first | decide | omega, fun i hi => ?_⟩ | fail) | (refine ⟨(rfl : ltB _ _), ?_⟩; try dsimp only [upds, putBack, backSl, wipeS, keepS, List.set_cons_zero, List.set_cons_succ, getD_s, getD_z, List.cons_append, List.nil_append, List.replicate, List.reduceReplicate, R.sl]) | ((with_reducible refine (id : @ite _ _ _ _ _ → @ite _ _ _ _ _) ?_); first | refine iteT rfl ?_ | refine iteF rfl ?_ | refine iteB (fun hh => ?_) (fun hh => ?_) | refine iteb (fun hh => ?_) (fun hh => ?_) | fail) | ((fail_if_success (with_reducible refine (id : pEq _ _ → pEq _ _) ?_)); (fail_if_success (with_reducible refine (id : pNe _ _ → pNe _ _) ?_)); (fail_if_success (with_reducible refine (id : pLt _ _ → pLt _ _) ?_)); (fail_if_success (with_reducible refine (id : pGt _ _ → pGt _ _) ?_)); (fail_if_success (with_reducible refine (id : pLe _ _ → pLe _ _) ?_)); (fail_if_success (with_reducible refine (id : pGe _ _ → pGe _ _) ?_)); (fail_if_success (with_reducible refine (id : pMul _ _ → pMul _ _) ?_)); (fail_if_success (with_reducible refine (id : pMod _ _ → pMod _ _) ?_)); (fail_if_success (with_reducible refine (id : pDiv _ _ → pDiv _ _) ?_)); (fail_if_success (with_reducible refine (id : pPow _ _ → pPow _ _) ?_)); (fail_if_success (with_reducible refine (id : pSub _ _ → pSub _ _) ?_)); (fail_if_success (with_reducible refine (id : pIx _ _ → pIx _ _) ?_)); (fail_if_success (with_reducible refine (id : φMake _ _ _ → φMake _ _ _) ?_)); (fail_if_success (with_reducible refine (id : pMax _ _ → pMax _ _) ?_)); (fail_if_success (with_reducible refine (id : pMin _ _ → pMin _ _) ?_)); (fail_if_success (with_reducible refine (id : pSort2 _ _ → pSort2 _ _) ?_)); (fail_if_success (with_reducible refine (id : pRepr _ _ → pRepr _ _) ?_)); (fail_if_success (with_reducible refine (id : pSl _ _ → pSl _ _) ?_)); (fail_if_success (with_reducible refine (id : pIn _ _ → pIn _ _) ?_)); (fail_if_success (with_reducible refine (id : pNin _ _ → pNin _ _) ?_)); (fail_if_success (with_reducible refine (id : φDraw _ _ _ → φDraw _ _ _) ?_)); (fail_if_success (with_reducible refine (id : φ__law_stock _ _ _ → φ__law_stock _ _ _) ?_)); (fail_if_success (with_reducible refine (id : φ__law_skeleton _ _ _ → φ__law_skeleton _ _ _) ?_)); (fail_if_success (with_reducible refine (id : φ__law_program _ _ _ → φ__law_program _ _ _) ?_)); (fail_if_success (with_reducible refine (id : φ__law_jumps _ _ _ → φ__law_jumps _ _ _) ?_)); (fail_if_success (with_reducible refine (id : φ__law_some _ _ _ → φ__law_some _ _ _) ?_)); (fail_if_success (with_reducible refine (id : φ__law_is_told _ _ _ → φ__law_is_told _ _ _) ?_)); (fail_if_success (with_reducible refine (id : φ_serves _ _ _ → φ_serves _ _ _) ?_)); (fail_if_success (with_reducible refine (id : φ__law_is_just _ _ _ → φ__law_is_just _ _ _) ?_)); first | refine ⟨rfl, ?_⟩ | refine ⟨_, rfl, ?_⟩ | refine ⟨_, rfl, rfl, ?_⟩ | refine ⟨_, _, rfl, ?_⟩ | refine ⟨_, _, rfl, rfl, ?_⟩ | refine ⟨⟨_, _, rfl⟩, ?_⟩ | refine ⟨_, _, _, rfl, rfl, ?_⟩ | refine ⟨_, _, _, rfl, ?_⟩ | refine And.intro (by omega) ?_ | refine And.intro ⟨by omega, by omega⟩ ?_ | refine And.intro (by assumption) ?_ | refine And.intro (sz (by first | omega | (simp only [List.length_append, List.length_cons, List.length_nil, List.length_map, dInts_len, List.length_set]; omega))) ?_ | refine And.intro (szl (by first | omega | (simp only [List.length_append, List.length_cons, List.length_nil, List.length_map, dInts_len, List.length_set]; omega))) ?_ | fail) | fail))
          exact hN (_, _, _, _, _, _)
      · rintro d ⟨c0, c1⟩ N2 ⟨i, ch, rfl, hc⟩ hN2
        have hcl := hc.length_le
        have c100 := jump_lt hs hc
        (repeat' ((fail_if_success (with_reducible refine ForI.stop ?_)); (fail_if_success (with_reducible refine CompI.stop ?_)); (fail_if_success (with_reducible refine whileI.stop ?_)); first | ((with_reducible refine (id : φ__law_is_just _ _ _ → φ__law_is_just _ _ _) ?_); first | refine ⟨(_, _, _, _), rfl, ⟨by assumption, by omega, by assumption⟩, ?_⟩ | fail) | ((with_reducible refine (id : φ_serves _ _ _ → φ_serves _ _ _) ?_); first | refine ⟨(_, _, _, _, _), rfl, ⟨by assumption, by omega, by first | exact .inl rfl | exact .inr rfl | assumption, by omega⟩, ?_⟩ | refine ⟨(_, _, _, _, _), rfl, ⟨(‹PrOk _ _ _›).ok, by have := (‹PrOk _ _ _›).ll; omega, by first | exact .inl rfl | exact .inr rfl | assumption, by omega⟩, ?_⟩ | fail) | ((with_reducible refine (id : φ__law_is_told _ _ _ → φ__law_is_told _ _ _) ?_); first | refine ⟨(_, _, _, _, _), rfl, ⟨by assumption, by omega, by assumption⟩, ?_⟩ | fail) | ((with_reducible refine (id : φ__law_some _ _ _ → φ__law_some _ _ _) ?_); first | refine ⟨_, rfl, by first | omega | exact Nat.le_trans (jumps24 (by assumption)) (by decide), fun ch hc hcl => ?_⟩ | fail) | ((with_reducible refine (id : φ__law_jumps _ _ _ → φ__law_jumps _ _ _) ?_); first | refine ⟨_, rfl, by have := (‹SkOk _›).1; omega, ?_⟩ | fail) | ((with_reducible refine (id : φ__law_program _ _ _ → φ__law_program _ _ _) ?_); first | refine ⟨_, _, rfl, by assumption, fun ls rs hp => ?_⟩ | fail) | ((with_reducible refine (id : φ__law_skeleton _ _ _ → φ__law_skeleton _ _ _) ?_); first | refine ⟨_, _, rfl, by first | decide | omega, by first | decide | omega, fun sk hs => ?_⟩ | fail) | ((with_reducible refine (id : φ__law_stock _ _ _ → φ__law_stock _ _ _) ?_); first | refine ⟨_, rfl, by omega, ?_⟩ | fail) | ((with_reducible refine (id : pEq _ _ → pEq _ _) ?_); first | refine pEq_strT ?_ | refine pEq_int ?_ | refine pEq_str ?_ | refine pEq_nils ?_ | refine pEq_nilt ?_ | fail) | ((with_reducible refine (id : pNe _ _ → pNe _ _) ?_); first | refine pNe_strF ?_ | refine pNe_int ?_ | refine pNe_str ?_ | refine pNe_nils ?_ | refine pNe_nilt ?_ | fail) | ((with_reducible refine (id : pLt _ _ → pLt _ _) ?_); first | refine pLt_int ?_ | fail) | ((with_reducible refine (id : pGt _ _ → pGt _ _) ?_); first | refine pGt_int ?_ | fail) | ((with_reducible refine (id : pLe _ _ → pLe _ _) ?_); first | refine pLe_int ?_ | fail) | ((with_reducible refine (id : pGe _ _ → pGe _ _) ?_); first | refine pGe_int ?_ | fail) | ((with_reducible refine (id : pMul _ _ → pMul _ _) ?_); first | refine ⟨.inl ⟨by omega, by omega⟩, ?_⟩ | refine ⟨.inr ⟨by omega, by omega⟩, ?_⟩ | fail) | ((with_reducible refine (id : pMod _ _ → pMod _ _) ?_); first | refine ⟨_, _, rfl, by omega, ?_⟩ | fail) | ((with_reducible refine (id : pDiv _ _ → pDiv _ _) ?_); first | refine ⟨_, _, rfl, ⟨by omega, by omega⟩, ?_⟩ | fail) | ((with_reducible refine (id : pPow _ _ → pPow _ _) ?_); first | refine ⟨_, _, rfl, ⟨by decide, by decide, by decide⟩, ?_⟩ | fail) | ((with_reducible refine (id : pSub _ _ → pSub _ _) ?_); first | refine ⟨_, _, rfl, ?_⟩ | fail) | ((with_reducible refine (id : pIx _ _ → pIx _ _) ?_); first | refine ⟨_, rfl, ?_⟩ | refine ⟨_, dSk_at (by assumption), ?_⟩ | refine ⟨_, nums_at (by omega), ?_⟩ | refine ⟨_, nats_at (by omega), ?_⟩ | refine ⟨_, nums_first (by omega), ?_⟩ | refine ⟨_, nums_last (by omega), ?_⟩ | fail) | ((with_reducible refine (id : φMake _ _ _ → φMake _ _ _) ?_); first | refine ⟨_, rfl, by omega, ?_⟩ | fail) | ((with_reducible refine (id : pMax _ _ → pMax _ _) ?_); first | refine pMax2 ?_ | fail) | ((with_reducible refine (id : pMin _ _ → pMin _ _) ?_); first | refine pMin2 ?_ | fail) | ((with_reducible refine (id : pSort2 _ _ → pSort2 _ _) ?_); first | refine pSort2_l ?_ | refine pSort2_t ?_ | fail) | ((with_reducible refine (id : pRepr _ _ → pRepr _ _) ?_); first | refine Nice.rp (by assumption) (by decide) (by decide) ?_ | refine (Nice.int (by omega) (by omega)).rp (by decide) (by decide) ?_ | fail) | ((with_reducible refine (id : pSl _ _ → pSl _ _) ?_); first | refine ⟨_, _, rfl, rfl, ?_⟩ | fail) | ((with_reducible refine (id : pIn _ _ → pIn _ _) ?_); first | refine pIn_row (by first | exact .inl rfl | exact .inr rfl | assumption) ?_ | fail) | ((with_reducible refine (id : pNin _ _ → pNin _ _) ?_); first | refine pNin_row (by first | exact .inl rfl | exact .inr rfl | assumption) ?_ | fail) | ((with_reducible refine (id : φDraw _ _ _ → φDraw _ _ _) ?_); first | refine ⟨_, rfl, by first | decide | omega, by first | decide | omega, fun i hi => ?_⟩ | fail) | (refine ⟨(rfl : ltB _ _), ?_⟩; try dsimp only [upds, putBack, backSl, wipeS, keepS, List.set_cons_zero, List.set_cons_succ, getD_s, getD_z, List.cons_append, List.nil_append, List.replicate, List.reduceReplicate, R.sl]) | ((with_reducible refine (id : @ite _ _ _ _ _ → @ite _ _ _ _ _) ?_); first | refine iteT rfl ?_ | refine iteF rfl ?_ | refine iteB (fun hh => ?_) (fun hh => ?_) | refine iteb (fun hh => ?_) (fun hh => ?_) | fail) | ((fail_if_success (with_reducible refine (id : pEq _ _ → pEq _ _) ?_)); (fail_if_success (with_reducible refine (id : pNe _ _ → pNe _ _) ?_)); (fail_if_success (with_reducible refine (id : pLt _ _ → pLt _ _) ?_)); (fail_if_success (with_reducible refine (id : pGt _ _ → pGt _ _) ?_)); (fail_if_success (with_reducible refine (id : pLe _ _ → pLe _ _) ?_)); (fail_if_success (with_reducible refine (id : pGe _ _ → pGe _ _) ?_)); (fail_if_success (with_reducible refine (id : pMul _ _ → pMul _ _) ?_)); (fail_if_success (with_reducible refine (id : pMod _ _ → pMod _ _) ?_)); (fail_if_success (with_reducible refine (id : pDiv _ _ → pDiv _ _) ?_)); (fail_if_success (with_reducible refine (id : pPow _ _ → pPow _ _) ?_)); (fail_if_success (with_reducible refine (id : pSub _ _ → pSub _ _) ?_)); (fail_if_success (with_reducible refine (id : pIx _ _ → pIx _ _) ?_)); (fail_if_success (with_reducible refine (id : φMake _ _ _ → φMake _ _ _) ?_)); (fail_if_success (with_reducible refine (id : pMax _ _ → pMax _ _) ?_)); (fail_if_success (with_reducible refine (id : pMin _ _ → pMin _ _) ?_)); (fail_if_success (with_reducible refine (id : pSort2 _ _ → pSort2 _ _) ?_)); (fail_if_success (with_reducible refine (id : pRepr _ _ → pRepr _ _) ?_)); (fail_if_success (with_reducible refine (id : pSl _ _ → pSl _ _) ?_)); (fail_if_success (with_reducible refine (id : pIn _ _ → pIn _ _) ?_)); (fail_if_success (with_reducible refine (id : pNin _ _ → pNin _ _) ?_)); (fail_if_success (with_reducible refine (id : φDraw _ _ _ → φDraw _ _ _) ?_)); (fail_if_success (with_reducible refine (id : φ__law_stock _ _ _ → φ__law_stock _ _ _) ?_)); (fail_if_success (with_reducible refine (id : φ__law_skeleton _ _ _ → φ__law_skeleton _ _ _) ?_)); (fail_if_success (with_reducible refine (id : φ__law_program _ _ _ → φ__law_program _ _ _) ?_)); (fail_if_success (with_reducible refine (id : φ__law_jumps _ _ _ → φ__law_jumps _ _ _) ?_)); (fail_if_success (with_reducible refine (id : φ__law_some _ _ _ → φ__law_some _ _ _) ?_)); (fail_if_success (with_reducible refine (id : φ__law_is_told _ _ _ → φ__law_is_told _ _ _) ?_)); (fail_if_success (with_reducible refine (id : φ_serves _ _ _ → φ_serves _ _ _) ?_)); (fail_if_success (with_reducible refine (id : φ__law_is_just _ _ _ → φ__law_is_just _ _ _) ?_)); first | refine ⟨rfl, ?_⟩ | refine ⟨_, rfl, ?_⟩ | refine ⟨_, rfl, rfl, ?_⟩ | refine ⟨_, _, rfl, ?_⟩ | refine ⟨_, _, rfl, rfl, ?_⟩ | refine ⟨⟨_, _, rfl⟩, ?_⟩ | refine ⟨_, _, _, rfl, rfl, ?_⟩ | refine ⟨_, _, _, rfl, ?_⟩ | refine And.intro (by omega) ?_ | refine And.intro ⟨by omega, by omega⟩ ?_ | refine And.intro (by assumption) ?_ | refine And.intro (sz (by first | omega | (simp only [List.length_append, List.length_cons, List.length_nil, List.length_map, dInts_len, List.length_set]; omega))) ?_ | refine And.intro (szl (by first | omega | (simp only [List.length_append, List.length_cons, List.length_nil, List.length_map, dInts_len, List.length_set]; omega))) ?_ | fail) | fail))
        exact hN2 (_, _)

theorem all_mk {l : PySem.W.OpenLaw} {w : World} {K : PySem.W.Frag} {h : Heap} {mg : Str → Option Value} {fa : Addr} {f0 f1 f2 f3 f4 f5 f6 f7 f8 f9 f10 f11 f12 f13 f14 f15 f16 f17 f18 f19 f20 : Addr} {od0 an0 od1 an1 od2 an2 od3 an3 od4 an4 od5 an5 od6 an6 od7 an7 od8 an8 od9 an9 od10 an10 od11 an11 od12 an12 od13 an13 od14 an14 od15 an15 od16 an16 od17 an17 od18 an18 od19 an19 od20 an20 : Option Addr} {sl0 sl1 sl2 sl3 sl4 sl5 sl6 sl7 sl8 sl9 sl10 sl11 sl12 sl13 sl14 sl15 sl16 sl17 sl18 sl19 sl20 : Array (Option Value)} {oc0 kV0 dc0 pm0 cd0 ct0 oc1 kV1 dc1 pm1 cd1 ct1 oc2 kV2 dc2 pm2 cd2 ct2 oc3 kV3 dc3 pm3 cd3 ct3 oc4 kV4 dc4 pm4 cd4 ct4 oc5 kV5 dc5 pm5 cd5 ct5 oc6 kV6 dc6 pm6 cd6 ct6 oc7 kV7 dc7 pm7 cd7 ct7 oc8 kV8 dc8 pm8 cd8 ct8 oc9 kV9 dc9 pm9 cd9 ct9 oc10 kV10 dc10 pm10 cd10 ct10 oc11 kV11 dc11 pm11 cd11 ct11 oc12 kV12 dc12 pm12 cd12 ct12 oc13 kV13 dc13 pm13 cd13 ct13 oc14 kV14 dc14 pm14 cd14 ct14 oc15 kV15 dc15 pm15 cd15 ct15 oc16 kV16 dc16 pm16 cd16 ct16 oc17 kV17 dc17 pm17 cd17 ct17 oc18 kV18 dc18 pm18 cd18 ct18 oc19 kV19 dc19 pm19 cd19 ct19 oc20 kV20 dc20 pm20 cd20 ct20 : Value} (X : K.In h) (G : h.Ns mainGlobals mg) (hfa : mg "law" = some (.ref fa))
    (a0 : PySem.W.nsIn K mainGlobals "jumps_of" = some (some (.ref f0))) (l0 : K.lookup f0 = some ⟨oc0, od0, .func (PySem.W.fnOf "jumps_of" "jumps_of" (defArgs s_jumps_of) (defBody s_jumps_of) (defScope s_jumps_of) .none kV0 dc0 pm0 an0 cd0 ct0), sl0⟩) (c0 : PySem.W.codeIn K cd0 "jumps_of" = true) (k0 : PySem.W.keepIn K (.ref f0) = true)
    (a1 : PySem.W.nsIn K mainGlobals "bytes_at" = some (some (.ref f1))) (l1 : K.lookup f1 = some ⟨oc1, od1, .func (PySem.W.fnOf "bytes_at" "bytes_at" (defArgs s_bytes_at) (defBody s_bytes_at) (defScope s_bytes_at) .none kV1 dc1 pm1 an1 cd1 ct1), sl1⟩) (c1 : PySem.W.codeIn K cd1 "bytes_at" = true) (k1 : PySem.W.keepIn K (.ref f1) = true)
    (a2 : PySem.W.nsIn K mainGlobals "laid" = some (some (.ref f2))) (l2 : K.lookup f2 = some ⟨oc2, od2, .func (PySem.W.fnOf "laid" "laid" (defArgs s_laid) (defBody s_laid) (defScope s_laid) .none kV2 dc2 pm2 an2 cd2 ct2), sl2⟩) (c2 : PySem.W.codeIn K cd2 "laid" = true) (k2 : PySem.W.keepIn K (.ref f2) = true)
    (a3 : PySem.W.nsIn K mainGlobals "way_between" = some (some (.ref f3))) (l3 : K.lookup f3 = some ⟨oc3, od3, .func (PySem.W.fnOf "way_between" "way_between" (defArgs s_way_between) (defBody s_way_between) (defScope s_way_between) .none kV3 dc3 pm3 an3 cd3 ct3), sl3⟩) (c3 : PySem.W.codeIn K cd3 "way_between" = true) (k3 : PySem.W.keepIn K (.ref f3) = true)
    (a4 : PySem.W.nsIn K mainGlobals "stuck" = some (some (.ref f4))) (l4 : K.lookup f4 = some ⟨oc4, od4, .func (PySem.W.fnOf "stuck" "stuck" (defArgs s_stuck) (defBody s_stuck) (defScope s_stuck) .none kV4 dc4 pm4 an4 cd4 ct4), sl4⟩) (c4 : PySem.W.codeIn K cd4 "stuck" = true) (k4 : PySem.W.keepIn K (.ref f4) = true)
    (a5 : PySem.W.nsIn K mainGlobals "serves" = some (some (.ref f5))) (l5 : K.lookup f5 = some ⟨oc5, od5, .func (PySem.W.fnOf "serves" "serves" (defArgs s_serves) (defBody s_serves) (defScope s_serves) .none kV5 dc5 pm5 an5 cd5 ct5), sl5⟩) (c5 : PySem.W.codeIn K cd5 "serves" = true) (k5 : PySem.W.keepIn K (.ref f5) = true)
    (a6 : PySem.W.nsIn K mainGlobals "_law_stock" = some (some (.ref f6))) (l6 : K.lookup f6 = some ⟨oc6, od6, .func (PySem.W.fnOf "_law_stock" "_law_stock" (defArgs s__law_stock) (defBody s__law_stock) (defScope s__law_stock) .none kV6 dc6 pm6 an6 cd6 ct6), sl6⟩) (c6 : PySem.W.codeIn K cd6 "_law_stock" = true) (k6 : PySem.W.keepIn K (.ref f6) = true)
    (a7 : PySem.W.nsIn K mainGlobals "_law_draw" = some (some (.ref f7))) (l7 : K.lookup f7 = some ⟨oc7, od7, .func (PySem.W.fnOf "_law_draw" "_law_draw" (defArgs s__law_draw) (defBody s__law_draw) (defScope s__law_draw) .none kV7 dc7 pm7 an7 cd7 ct7), sl7⟩) (c7 : PySem.W.codeIn K cd7 "_law_draw" = true) (k7 : PySem.W.keepIn K (.ref f7) = true)
    (a8 : PySem.W.nsIn K mainGlobals "_law_pick" = some (some (.ref f8))) (l8 : K.lookup f8 = some ⟨oc8, od8, .func (PySem.W.fnOf "_law_pick" "_law_pick" (defArgs s__law_pick) (defBody s__law_pick) (defScope s__law_pick) .none kV8 dc8 pm8 an8 cd8 ct8), sl8⟩) (c8 : PySem.W.codeIn K cd8 "_law_pick" = true) (k8 : PySem.W.keepIn K (.ref f8) = true)
    (a9 : PySem.W.nsIn K mainGlobals "_law_words" = some (some (.ref f9))) (l9 : K.lookup f9 = some ⟨oc9, od9, .func (PySem.W.fnOf "_law_words" "_law_words" (defArgs s__law_words) (defBody s__law_words) (defScope s__law_words) .none kV9 dc9 pm9 an9 cd9 ct9), sl9⟩) (c9 : PySem.W.codeIn K cd9 "_law_words" = true) (k9 : PySem.W.keepIn K (.ref f9) = true)
    (a10 : PySem.W.nsIn K mainGlobals "_law_skeleton" = some (some (.ref f10))) (l10 : K.lookup f10 = some ⟨oc10, od10, .func (PySem.W.fnOf "_law_skeleton" "_law_skeleton" (defArgs s__law_skeleton) (defBody s__law_skeleton) (defScope s__law_skeleton) .none kV10 dc10 pm10 an10 cd10 ct10), sl10⟩) (c10 : PySem.W.codeIn K cd10 "_law_skeleton" = true) (k10 : PySem.W.keepIn K (.ref f10) = true)
    (a11 : PySem.W.nsIn K mainGlobals "_law_jumps" = some (some (.ref f11))) (l11 : K.lookup f11 = some ⟨oc11, od11, .func (PySem.W.fnOf "_law_jumps" "_law_jumps" (defArgs s__law_jumps) (defBody s__law_jumps) (defScope s__law_jumps) .none kV11 dc11 pm11 an11 cd11 ct11), sl11⟩) (c11 : PySem.W.codeIn K cd11 "_law_jumps" = true) (k11 : PySem.W.keepIn K (.ref f11) = true)
    (a12 : PySem.W.nsIn K mainGlobals "_law_laying" = some (some (.ref f12))) (l12 : K.lookup f12 = some ⟨oc12, od12, .func (PySem.W.fnOf "_law_laying" "_law_laying" (defArgs s__law_laying) (defBody s__law_laying) (defScope s__law_laying) .none kV12 dc12 pm12 an12 cd12 ct12), sl12⟩) (c12 : PySem.W.codeIn K cd12 "_law_laying" = true) (k12 : PySem.W.keepIn K (.ref f12) = true)
    (a13 : PySem.W.nsIn K mainGlobals "_law_way" = some (some (.ref f13))) (l13 : K.lookup f13 = some ⟨oc13, od13, .func (PySem.W.fnOf "_law_way" "_law_way" (defArgs s__law_way) (defBody s__law_way) (defScope s__law_way) .none kV13 dc13 pm13 an13 cd13 ct13), sl13⟩) (c13 : PySem.W.codeIn K cd13 "_law_way" = true) (k13 : PySem.W.keepIn K (.ref f13) = true)
    (a14 : PySem.W.nsIn K mainGlobals "_law_lengths" = some (some (.ref f14))) (l14 : K.lookup f14 = some ⟨oc14, od14, .func (PySem.W.fnOf "_law_lengths" "_law_lengths" (defArgs s__law_lengths) (defBody s__law_lengths) (defScope s__law_lengths) .none kV14 dc14 pm14 an14 cd14 ct14), sl14⟩) (c14 : PySem.W.codeIn K cd14 "_law_lengths" = true) (k14 : PySem.W.keepIn K (.ref f14) = true)
    (a15 : PySem.W.nsIn K mainGlobals "_law_some" = some (some (.ref f15))) (l15 : K.lookup f15 = some ⟨oc15, od15, .func (PySem.W.fnOf "_law_some" "_law_some" (defArgs s__law_some) (defBody s__law_some) (defScope s__law_some) .none kV15 dc15 pm15 an15 cd15 ct15), sl15⟩) (c15 : PySem.W.codeIn K cd15 "_law_some" = true) (k15 : PySem.W.keepIn K (.ref f15) = true)
    (a16 : PySem.W.nsIn K mainGlobals "_law_program" = some (some (.ref f16))) (l16 : K.lookup f16 = some ⟨oc16, od16, .func (PySem.W.fnOf "_law_program" "_law_program" (defArgs s__law_program) (defBody s__law_program) (defScope s__law_program) .none kV16 dc16 pm16 an16 cd16 ct16), sl16⟩) (c16 : PySem.W.codeIn K cd16 "_law_program" = true) (k16 : PySem.W.keepIn K (.ref f16) = true)
    (a17 : PySem.W.nsIn K mainGlobals "_law_held" = some (some (.ref f17))) (l17 : K.lookup f17 = some ⟨oc17, od17, .func (PySem.W.fnOf "_law_held" "_law_held" (defArgs s__law_held) (defBody s__law_held) (defScope s__law_held) .none kV17 dc17 pm17 an17 cd17 ct17), sl17⟩) (c17 : PySem.W.codeIn K cd17 "_law_held" = true) (k17 : PySem.W.keepIn K (.ref f17) = true)
    (a18 : PySem.W.nsIn K mainGlobals "_law_is_told" = some (some (.ref f18))) (l18 : K.lookup f18 = some ⟨oc18, od18, .func (PySem.W.fnOf "_law_is_told" "_law_is_told" (defArgs s__law_is_told) (defBody s__law_is_told) (defScope s__law_is_told) .none kV18 dc18 pm18 an18 cd18 ct18), sl18⟩) (c18 : PySem.W.codeIn K cd18 "_law_is_told" = true) (k18 : PySem.W.keepIn K (.ref f18) = true)
    (a19 : PySem.W.nsIn K mainGlobals "_law_is_just" = some (some (.ref f19))) (l19 : K.lookup f19 = some ⟨oc19, od19, .func (PySem.W.fnOf "_law_is_just" "_law_is_just" (defArgs s__law_is_just) (defBody s__law_is_just) (defScope s__law_is_just) .none kV19 dc19 pm19 an19 cd19 ct19), sl19⟩) (c19 : PySem.W.codeIn K cd19 "_law_is_just" = true) (k19 : PySem.W.keepIn K (.ref f19) = true)
    (a20 : PySem.W.nsIn K mainGlobals "law" = some (some (.ref f20))) (l20 : K.lookup f20 = some ⟨oc20, od20, .func (PySem.W.fnOf "law" "law" (defArgs s_law) (defBody s_law) (defScope s_law) .none kV20 dc20 pm20 an20 cd20 ct20), sl20⟩) (c20 : PySem.W.codeIn K cd20 "law" = true) (k20 : PySem.W.keepIn K (.ref f20) = true)
    (z_enumerate : PySem.W.nsIn K mainGlobals "enumerate" = some none)
    (z_int : PySem.W.nsIn K mainGlobals "int" = some none)
    (z_len : PySem.W.nsIn K mainGlobals "len" = some none)
    (z_max : PySem.W.nsIn K mainGlobals "max" = some none)
    (z_min : PySem.W.nsIn K mainGlobals "min" = some none)
    (z_range : PySem.W.nsIn K mainGlobals "range" = some none)
    (z_repr : PySem.W.nsIn K mainGlobals "repr" = some none)
    (z_sum : PySem.W.nsIn K mainGlobals "sum" = some none)
    (z_tuple : PySem.W.nsIn K mainGlobals "tuple" = some none)
    (z_zip : PySem.W.nsIn K mainGlobals "zip" = some none) :
    ∃ fd : FuncData, (∀ (s : Shared) (v : Value), BindsTo s fd ⟨[v], []⟩ [("script", v)]) ∧ ∀ base : Heap, K.In base → base.Ns mainGlobals mg → FnG l.prog w K mg base 6 fa fd 1 ["script"] (spOf (Gs K) ⟨fun _ => none⟩ φ_law) := by
  have e := hfa.symm.trans (PySem.W.mg_of X G a20)
  cases e
  have z : Txt mg := ⟨PySem.W.mg_none_of X G z_enumerate, PySem.W.mg_none_of X G z_int, PySem.W.mg_none_of X G z_len, PySem.W.mg_none_of X G z_max, PySem.W.mg_none_of X G z_min, PySem.W.mg_none_of X G z_range, PySem.W.mg_none_of X G z_repr, PySem.W.mg_none_of X G z_sum, PySem.W.mg_none_of X G z_tuple, PySem.W.mg_none_of X G z_zip⟩
  have W0 : Wr K mg "jumps_of" s_jumps_of := ⟨f0, _, fun_mk (st := s_jumps_of) l0 c0 k0, PySem.W.mg_of X G a0⟩
  have W1 : Wr K mg "bytes_at" s_bytes_at := ⟨f1, _, fun_mk (st := s_bytes_at) l1 c1 k1, PySem.W.mg_of X G a1⟩
  have W2 : Wr K mg "laid" s_laid := ⟨f2, _, fun_mk (st := s_laid) l2 c2 k2, PySem.W.mg_of X G a2⟩
  have W3 : Wr K mg "way_between" s_way_between := ⟨f3, _, fun_mk (st := s_way_between) l3 c3 k3, PySem.W.mg_of X G a3⟩
  have W4 : Wr K mg "stuck" s_stuck := ⟨f4, _, fun_mk (st := s_stuck) l4 c4 k4, PySem.W.mg_of X G a4⟩
  have W5 : Wr K mg "serves" s_serves := ⟨f5, _, fun_mk (st := s_serves) l5 c5 k5, PySem.W.mg_of X G a5⟩
  have W6 : Wr K mg "_law_stock" s__law_stock := ⟨f6, _, fun_mk (st := s__law_stock) l6 c6 k6, PySem.W.mg_of X G a6⟩
  have W7 : Wr K mg "_law_draw" s__law_draw := ⟨f7, _, fun_mk (st := s__law_draw) l7 c7 k7, PySem.W.mg_of X G a7⟩
  have W8 : Wr K mg "_law_pick" s__law_pick := ⟨f8, _, fun_mk (st := s__law_pick) l8 c8 k8, PySem.W.mg_of X G a8⟩
  have W9 : Wr K mg "_law_words" s__law_words := ⟨f9, _, fun_mk (st := s__law_words) l9 c9 k9, PySem.W.mg_of X G a9⟩
  have W10 : Wr K mg "_law_skeleton" s__law_skeleton := ⟨f10, _, fun_mk (st := s__law_skeleton) l10 c10 k10, PySem.W.mg_of X G a10⟩
  have W11 : Wr K mg "_law_jumps" s__law_jumps := ⟨f11, _, fun_mk (st := s__law_jumps) l11 c11 k11, PySem.W.mg_of X G a11⟩
  have W12 : Wr K mg "_law_laying" s__law_laying := ⟨f12, _, fun_mk (st := s__law_laying) l12 c12 k12, PySem.W.mg_of X G a12⟩
  have W13 : Wr K mg "_law_way" s__law_way := ⟨f13, _, fun_mk (st := s__law_way) l13 c13 k13, PySem.W.mg_of X G a13⟩
  have W14 : Wr K mg "_law_lengths" s__law_lengths := ⟨f14, _, fun_mk (st := s__law_lengths) l14 c14 k14, PySem.W.mg_of X G a14⟩
  have W15 : Wr K mg "_law_some" s__law_some := ⟨f15, _, fun_mk (st := s__law_some) l15 c15 k15, PySem.W.mg_of X G a15⟩
  have W16 : Wr K mg "_law_program" s__law_program := ⟨f16, _, fun_mk (st := s__law_program) l16 c16 k16, PySem.W.mg_of X G a16⟩
  have W17 : Wr K mg "_law_held" s__law_held := ⟨f17, _, fun_mk (st := s__law_held) l17 c17 k17, PySem.W.mg_of X G a17⟩
  have W18 : Wr K mg "_law_is_told" s__law_is_told := ⟨f18, _, fun_mk (st := s__law_is_told) l18 c18 k18, PySem.W.mg_of X G a18⟩
  have W19 : Wr K mg "_law_is_just" s__law_is_just := ⟨f19, _, fun_mk (st := s__law_is_just) l19 c19 k19, PySem.W.mg_of X G a19⟩
  have FL := fun_mk (st := s_law) l20 c20 k20
  refine ⟨PySem.W.fnOf "law" "law" (defArgs s_law) (defBody s_law) (defScope s_law) .none kV20 dc20 pm20 an20 cd20 ct20, fun s v => .of_eq rfl, fun base _ _ => ?_⟩
  have F_jumps_of : Fd l.prog w K mg base (Gs K) ⟨fun _ => none⟩ 1 1 "jumps_of" ["skeleton"] [] φ_jumps_of := d_jumps_of z W0
  have F_bytes_at : Fd l.prog w K mg base (Gs K) ⟨fun _ => none⟩ 1 3 "bytes_at" ["item", "place", "is_long"] [] φ_bytes_at := d_bytes_at z W1
  have F_laid : Fd l.prog w K mg base (Gs K) ⟨fun _ => none⟩ 2 3 "laid" ["skeleton", "lengths", "choice"] [] φ_laid := d_laid z F_bytes_at W2
  have F_way_between : Fd l.prog w K mg base (Gs K) ⟨fun _ => none⟩ 1 3 "way_between" ["skeleton", "spots", "jump"] [] φ_way_between := d_way_between z W3
  have F_stuck : Fd l.prog w K mg base (Gs K) ⟨fun _ => none⟩ 3 2 "stuck" ["program", "choice"] [["choice", "program"]] φ_stuck := d_stuck z F_laid F_jumps_of F_way_between W4
  have F_serves : Fd l.prog w K mg base (Gs K) ⟨fun _ => none⟩ 4 2 "serves" ["program", "choice"] [["choice", "program"]] φ_serves := d_serves z F_stuck W5
  have F__law_stock : Fd l.prog w K mg base (Gs K) ⟨fun _ => none⟩ 1 1 "_law_stock" ["script"] [] φ__law_stock := d__law_stock z W6
  have F__law_draw : Fd l.prog w K mg base (Gs K) ⟨fun _ => none⟩ 1 2 "_law_draw" ["stock", "size"] [] φ__law_draw := d__law_draw z W7
  have F__law_pick : Fd l.prog w K mg base (Gs K) ⟨fun _ => none⟩ 2 2 "_law_pick" ["stock", "row"] [] φ__law_pick := d__law_pick z F__law_draw W8
  have F__law_words : Fd l.prog w K mg base (Gs K) ⟨fun _ => none⟩ 3 2 "_law_words" ["stock", "most"] [] φ__law_words := d__law_words z F__law_pick F__law_draw W9
  have F__law_skeleton : Fd l.prog w K mg base (Gs K) ⟨fun _ => none⟩ 4 3 "_law_skeleton" ["stock", "most", "wide"] [] φ__law_skeleton := d__law_skeleton z F__law_words F__law_draw F__law_pick W10
  have F__law_jumps : Fd l.prog w K mg base (Gs K) ⟨fun _ => none⟩ 1 1 "_law_jumps" ["skeleton"] [] φ__law_jumps := d__law_jumps z W11
  have F__law_laying : Fd l.prog w K mg base (Gs K) ⟨fun _ => none⟩ 1 3 "_law_laying" ["skeleton", "lengths", "choice"] [] φ__law_laying := d__law_laying z W12
  have F__law_way : Fd l.prog w K mg base (Gs K) ⟨fun _ => none⟩ 2 4 "_law_way" ["skeleton", "lengths", "choice", "jump"] [] φ__law_way := d__law_way z F__law_laying W13
  have F__law_lengths : Fd l.prog w K mg base (Gs K) ⟨fun _ => none⟩ 3 3 "_law_lengths" ["stock", "skeleton", "is_great"] [] φ__law_lengths := d__law_lengths z F__law_pick F__law_draw W14
  have F__law_some : Fd l.prog w K mg base (Gs K) ⟨fun _ => none⟩ 2 2 "_law_some" ["stock", "row"] [] φ__law_some := d__law_some z F__law_draw W15
  have F__law_program : Fd l.prog w K mg base (Gs K) ⟨fun _ => none⟩ 4 3 "_law_program" ["stock", "skeleton", "is_great"] [] φ__law_program := d__law_program z F__law_lengths F__law_jumps F__law_way F__law_pick F__law_some F__law_draw W16
  have F__law_held : Fd l.prog w K mg base (Gs K) ⟨fun _ => none⟩ 3 2 "_law_held" ["program", "choice"] [] φ__law_held := d__law_held z F__law_jumps F__law_way W17
  have F__law_is_told : Fd l.prog w K mg base (Gs K) ⟨fun _ => none⟩ 5 3 "_law_is_told" ["program", "choice", "is_named"] [] φ__law_is_told := d__law_is_told z F__law_held F_stuck F_serves W18
  have F__law_is_just : Fd l.prog w K mg base (Gs K) ⟨fun _ => none⟩ 5 3 "_law_is_just" ["stock", "program", "choice"] [] φ__law_is_just := d__law_is_just z F__law_jumps F__law_draw F__law_way F_serves F_stuck W19
  exact (fn_body (m := 7) (n := 1) FL sc_law rfl rfl rfl (fun cdv A outer s H E pl => (b_law z F__law_stock F__law_skeleton F__law_program F__law_jumps F__law_some F__law_is_told F_serves F__law_is_just _ cdv A outer s H E pl).p)).imp c_law
end Pd

open PySem PySem.W PyProof.Rows in
set_option maxRecDepth 100000 in
set_option maxHeartbeats 0 in
theorem PySem.Challenge.cw_longernearer_k12_whole_what_serves_and_i_holds : PySem.Challenge.rw_longernearer_k12_whole_what_serves_and_i.Holds := by
  w_on; o_law; k_head; (case hw => w_witness2)
  k_fill
  refine Pd.walkG (l := PySem.Challenge.rw_longernearer_k12_whole_what_serves_and_i) (k := 6) (x := "script") (Gw := fun w => Pd.Gs _) (T := fun _ => ⟨fun _ => none⟩) (φ := Pd.φ_law) rfl (by decide) rfl ⟨rfl, by decide, by decide⟩ (fun _ => rfl) (fun w h Y => PySem.W.kIn_of Y) Pd.φ_law_mono ?F Pd.law_ok
  case F =>
    intro w mg fa h KX G hmg
    refine' Pd.all_mk KX G hmg ?a0 ?l0 ?c0 ?k0 ?a1 ?l1 ?c1 ?k1 ?a2 ?l2 ?c2 ?k2 ?a3 ?l3 ?c3 ?k3 ?a4 ?l4 ?c4 ?k4 ?a5 ?l5 ?c5 ?k5 ?a6 ?l6 ?c6 ?k6 ?a7 ?l7 ?c7 ?k7 ?a8 ?l8 ?c8 ?k8 ?a9 ?l9 ?c9 ?k9 ?a10 ?l10 ?c10 ?k10 ?a11 ?l11 ?c11 ?k11 ?a12 ?l12 ?c12 ?k12 ?a13 ?l13 ?c13 ?k13 ?a14 ?l14 ?c14 ?k14 ?a15 ?l15 ?c15 ?k15 ?a16 ?l16 ?c16 ?k16 ?a17 ?l17 ?c17 ?k17 ?a18 ?l18 ?c18 ?k18 ?a19 ?l19 ?c19 ?k19 ?a20 ?l20 ?c20 ?k20 ?z_enumerate ?z_int ?z_len ?z_max ?z_min ?z_range ?z_repr ?z_sum ?z_tuple ?z_zip
    (case a0 => k_is)
    (case l0 => k_is)
    (case c0 => k_is)
    (case k0 => k_is)
    (case a1 => k_is)
    (case l1 => k_is)
    (case c1 => k_is)
    (case k1 => k_is)
    (case a2 => k_is)
    (case l2 => k_is)
    (case c2 => k_is)
    (case k2 => k_is)
    (case a3 => k_is)
    (case l3 => k_is)
    (case c3 => k_is)
    (case k3 => k_is)
    (case a4 => k_is)
    (case l4 => k_is)
    (case c4 => k_is)
    (case k4 => k_is)
    (case a5 => k_is)
    (case l5 => k_is)
    (case c5 => k_is)
    (case k5 => k_is)
    (case a6 => k_is)
    (case l6 => k_is)
    (case c6 => k_is)
    (case k6 => k_is)
    (case a7 => k_is)
    (case l7 => k_is)
    (case c7 => k_is)
    (case k7 => k_is)
    (case a8 => k_is)
    (case l8 => k_is)
    (case c8 => k_is)
    (case k8 => k_is)
    (case a9 => k_is)
    (case l9 => k_is)
    (case c9 => k_is)
    (case k9 => k_is)
    (case a10 => k_is)
    (case l10 => k_is)
    (case c10 => k_is)
    (case k10 => k_is)
    (case a11 => k_is)
    (case l11 => k_is)
    (case c11 => k_is)
    (case k11 => k_is)
    (case a12 => k_is)
    (case l12 => k_is)
    (case c12 => k_is)
    (case k12 => k_is)
    (case a13 => k_is)
    (case l13 => k_is)
    (case c13 => k_is)
    (case k13 => k_is)
    (case a14 => k_is)
    (case l14 => k_is)
    (case c14 => k_is)
    (case k14 => k_is)
    (case a15 => k_is)
    (case l15 => k_is)
    (case c15 => k_is)
    (case k15 => k_is)
    (case a16 => k_is)
    (case l16 => k_is)
    (case c16 => k_is)
    (case k16 => k_is)
    (case a17 => k_is)
    (case l17 => k_is)
    (case c17 => k_is)
    (case k17 => k_is)
    (case a18 => k_is)
    (case l18 => k_is)
    (case c18 => k_is)
    (case k18 => k_is)
    (case a19 => k_is)
    (case l19 => k_is)
    (case c19 => k_is)
    (case k19 => k_is)
    (case a20 => k_is)
    (case l20 => k_is)
    (case c20 => k_is)
    (case k20 => k_is)
    (case z_enumerate => k_is)
    (case z_int => k_is)
    (case z_len => k_is)
    (case z_max => k_is)
    (case z_min => k_is)
    (case z_range => k_is)
    (case z_repr => k_is)
    (case z_sum => k_is)
    (case z_tuple => k_is)
    (case z_zip => k_is)
#print axioms PySem.Challenge.cw_longernearer_k12_whole_what_serves_and_i_holds
