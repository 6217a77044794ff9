import PyProof.Rows.All
import Wide.All
import OpenK.AllK
import Wide.FinOn
import HandS.ForMost
import HandS.Exc
import HandS.ExcOwn
import HandS.CallSlots
import HandS.WordsExc
import HandS.TupAny
import HandS.Wide
import HandS.IsInst
import HandS.Conv
import HandS.More
import HandS.EndBits
import HandS.SortInts
import HandS.Text
import HandS.StrMore
import KE.DatumOrd
import HandS.DictComp
import HandS.TupLe
import KE.KExcSuper
import KE.KSuper
import HandS.ExcInit
import HandS.Nested
import HandS.TryMany
import HandS.ExcField
import HandS.ExcIs
import KE.KExcIs
import HandS.Replace
import HandS.Strs
import PyProof.StrLawsIn
import PySem.Challenge.RW_stretchways_k03_lots_of_ways
set_option Elab.async false
set_option linter.all false
set_option maxRecDepth 100000
/-! DLa: data values, their place in the abstract heap, lifted readings -/
namespace DL
open PySem L2
/-- data: a plain value, or a tuple of data -/
inductive D where
  | v (x : V)
  | t (ds : List D)
  /-- a list that is known and never changes (the script) -/
  | k (ds : List D)
mutual
def D.beq : D → D → Bool
  | .v x, .v y => decide (x = y)
  | .t xs, .t ys => D.beqs xs ys
  | .k xs, .k ys => D.beqs xs ys
  | _, _ => false
def D.beqs : List D → List D → Bool
  | [], [] => true
  | x :: xs, y :: ys => D.beq x y && D.beqs xs ys
  | _, _ => false
end
mutual
theorem D.beq_eq : ∀ {x y : D}, D.beq x y = true → x = y
  | .v x, .v y, h => by unfold D.beq at h; rw [of_decide_eq_true h]
  | .t xs, .t ys, h => by unfold D.beq at h; rw [D.beqs_eq h]
  | .k xs, .k ys, h => by unfold D.beq at h; rw [D.beqs_eq h]
  | .v _, .t _, h => by unfold D.beq at h; cases h
  | .t _, .v _, h => by unfold D.beq at h; cases h
  | .v _, .k _, h => by unfold D.beq at h; cases h
  | .k _, .v _, h => by unfold D.beq at h; cases h
  | .t _, .k _, h => by unfold D.beq at h; cases h
  | .k _, .t _, h => by unfold D.beq at h; cases h
theorem D.beqs_eq : ∀ {xs ys : List D}, D.beqs xs ys = true → xs = ys
  | [], [], _ => rfl
  | x :: xs, y :: ys, h => by
    unfold D.beqs at h
    rw [Bool.and_eq_true] at h
    rw [D.beq_eq h.1, D.beqs_eq h.2]
  | [], _ :: _, h => by unfold D.beqs at h; cases h
  | _ :: _, [], h => by unfold D.beqs at h; cases h
end
mutual
theorem D.beq_refl : ∀ (x : D), D.beq x x = true
  | .v x => by unfold D.beq; exact decide_eq_true rfl
  | .t xs => by unfold D.beq; exact D.beqs_refl xs
  | .k xs => by unfold D.beq; exact D.beqs_refl xs
theorem D.beqs_refl : ∀ (xs : List D), D.beqs xs xs = true
  | [] => by unfold D.beqs; rfl
  | x :: xs => by unfold D.beqs; rw [D.beq_refl x, D.beqs_refl xs]; rfl
end
instance : DecidableEq D := fun x y => match h : D.beq x y with
  | true => .isTrue (D.beq_eq h)
  | false => .isFalse fun e => by subst e; rw [D.beq_refl] at h; cases h
/-- a list of the module, or one that is known to the object -/
def SqF (K : PySem.W.Frag) (H : Hp) (a : Addr) (xs : List V) : Prop := (∃ o, H a = some (.frz o (.lst xs))) ∨ ∃ (o : Obj) (its : Array Value) (n : Nat), K.lookup a = some o ∧ o.cls = .type "list" ∧ o.dict = none ∧ o.data = .seq its n ∧ its.size ≤ sizeLine ∧ Vals xs its.toList
theorem SqF.sq {K : PySem.W.Frag} {H : Hp} {a : Addr} {xs : List V} (h : SqF K H a xs) : SqL K H a xs := h.imp (fun h => .inr h) id
mutual
/-- the datum d is the value x over the abstract heap -/
inductive Rp (K : PySem.W.Frag) (H : Hp) : D → V → Prop
  | v (x : V) : Rp K H (.v x) x
  | t {ds : List D} {a : Addr} {vs : List V} : SqT K H a vs → Rps K H ds vs → Rp K H (.t ds) (.ref a)
  | k {ds : List D} {a : Addr} {vs : List V} : SqF K H a vs → Rps K H ds vs → Rp K H (.k ds) (.ref a)
inductive Rps (K : PySem.W.Frag) (H : Hp) : List D → List V → Prop
  | nil : Rps K H [] []
  | cons {d : D} {ds : List D} {x : V} {xs : List V} : Rp K H d x → Rps K H ds xs → Rps K H (d :: ds) (x :: xs)
end
/-- tuples and known things stand -/
structure Stb (H H' : Hp) : Prop where
  tup : ∀ b xs, H b = some (.tup xs) → H' b = some (.tup xs)
  frz : ∀ b o u, H b = some (.frz o u) → H' b = some (.frz o u)
theorem Stb.refl (H : Hp) : Stb H H := ⟨fun _ _ h => h, fun _ _ _ h => h⟩
theorem Stb.trans {H H1 H2 : Hp} (a : Stb H H1) (b : Stb H1 H2) : Stb H H2 := ⟨fun c xs h => b.tup c xs (a.tup c xs h), fun c o u h => b.frz c o u (a.frz c o u h)⟩
theorem Stb.new {H : Hp} {p : Addr} {o : HO} (h : H p = none) : Stb H (upd H p o) :=
  ⟨fun b xs e => by rw [upd_ne (ne_of_none e h)]; exact e, fun b o u e => by rw [upd_ne (ne_of_none e h)]; exact e⟩
/-- what may be changed -/
def Mt : HO → Prop
  | .tup _ => False
  | .frz _ _ => False
  | _ => True
theorem Stb.set {H : Hp} {p : Addr} {o u : HO} (h : H p = some u) (m : Mt u) : Stb H (upd H p o) :=
  ⟨fun b xs e => by
    by_cases q : b = p
    · subst q; rw [h] at e; cases e; exact m.elim
    · rw [upd_ne q]; exact e, fun b o u e => by
    by_cases q : b = p
    · subst q; rw [h] at e; cases e; exact m.elim
    · rw [upd_ne q]; exact e⟩
section
variable {K : PySem.W.Frag} {H H' : Hp}
theorem Stb.sqT (s : Stb H H') {a : Addr} {xs : List V} (h : SqT K H a xs) : SqT K H' a xs := by
  rcases h with (h | ⟨o, h⟩) | h
  · exact .inl (.inl (s.tup _ _ h))
  · exact .inl (.inr ⟨o, s.frz _ _ _ h⟩)
  · exact .inr h
mutual
theorem Rp.stb (s : Stb H H') : ∀ {d : D} {x : V}, Rp K H d x → Rp K H' d x
  | _, _, .v x => .v x
  | _, _, .t h r => .t (s.sqT h) (Rps.stb s r)
  | _, _, .k h r => .k (h.imp (fun ⟨o, e⟩ => ⟨o, s.frz _ _ _ e⟩) id) (Rps.stb s r)
theorem Rps.stb (s : Stb H H') : ∀ {ds : List D} {xs : List V}, Rps K H ds xs → Rps K H' ds xs
  | _, _, .nil => .nil
  | _, _, .cons r t => .cons (Rp.stb s r) (Rps.stb s t)
end
theorem Rps.length : ∀ {ds : List D} {xs : List V}, Rps K H ds xs → ds.length = xs.length
  | _, _, .nil => rfl
  | _, _, .cons _ t => congrArg Nat.succ (Rps.length t)
theorem Rps.get : ∀ {ds : List D} {xs : List V} {i : Nat} {d : D}, Rps K H ds xs → ds[i]? = some d → ∃ x, xs[i]? = some x ∧ Rp K H d x
  | _, _, _, _, .nil, e => by simp at e
  | _, _, 0, _, .cons r _, e => by simp at e; subst e; exact ⟨_, rfl, r⟩
  | _, _, i + 1, d, .cons r t, e => by
    obtain ⟨u, h1, h2⟩ := Rps.get (i := i) (d := d) t (by simpa using e)
    exact ⟨u, by simpa using h1, h2⟩
theorem Rps.get' : ∀ {ds : List D} {xs : List V} {i : Nat} {x : V}, Rps K H ds xs → xs[i]? = some x → ∃ d, ds[i]? = some d ∧ Rp K H d x
  | _, _, _, _, .nil, e => by simp at e
  | _, _, 0, _, .cons r _, e => by simp at e; subst e; exact ⟨_, rfl, r⟩
  | _, _, i + 1, d, .cons r t, e => by
    obtain ⟨u, h1, h2⟩ := Rps.get' (i := i) (x := d) t (by simpa using e)
    exact ⟨u, by simpa using h1, h2⟩
theorem Rps.append : ∀ {ds es : List D} {xs ys : List V}, Rps K H ds xs → Rps K H es ys → Rps K H (ds ++ es) (xs ++ ys)
  | _, _, _, _, .nil, s => s
  | _, _, _, _, .cons r t, s => .cons r (Rps.append t s)
theorem Rps.take : ∀ {ds : List D} {xs : List V} (n : Nat), Rps K H ds xs → Rps K H (ds.take n) (xs.take n)
  | _, _, 0, _ => .nil
  | _, _, _ + 1, .nil => .nil
  | _, _, n + 1, .cons r t => .cons r (Rps.take n t)
theorem Rps.drop : ∀ {ds : List D} {xs : List V} (n : Nat), Rps K H ds xs → Rps K H (ds.drop n) (xs.drop n)
  | _, _, 0, r => r
  | _, _, _ + 1, .nil => .nil
  | _, _, n + 1, .cons _ t => Rps.drop n t
theorem Rps.set {d : D} {x : V} (r : Rp K H d x) : ∀ {ds : List D} {xs : List V} (i : Nat), Rps K H ds xs → Rps K H (ds.set i d) (xs.set i x)
  | _, _, _, .nil => .nil
  | _, _, 0, .cons _ t => .cons r t
  | _, _, i + 1, .cons q t => .cons q (Rps.set r i t)
theorem Rps.reverse {ds : List D} {xs : List V} (h : Rps K H ds xs) : Rps K H ds.reverse xs.reverse := by
  suffices ∀ {ds : List D} {xs : List V}, Rps K H ds xs → ∀ {es : List D} {ys : List V}, Rps K H es ys → Rps K H (ds.reverse ++ es) (xs.reverse ++ ys) by
    simpa using this h .nil
  intro ds
  induction ds with
  | nil => intro xs h es ys q; cases h; exact q
  | cons d ds ih =>
    intro xs h es ys q
    cases h with
    | cons r t =>
      rw [List.reverse_cons, List.reverse_cons, List.append_assoc, List.append_assoc]
      exact ih t (.cons r q)
theorem Rps.dropLast : ∀ {ds : List D} {xs : List V}, Rps K H ds xs → Rps K H ds.dropLast xs.dropLast
  | _, _, .nil => .nil
  | _, _, .cons _ .nil => .nil
  | _, _, .cons r (.cons r' t) => .cons r (Rps.dropLast (.cons r' t))
theorem Rps.eraseIdx : ∀ {ds : List D} {xs : List V} (i : Nat), Rps K H ds xs → Rps K H (ds.eraseIdx i) (xs.eraseIdx i)
  | _, _, _, .nil => .nil
  | _, _, 0, .cons _ t => t
  | _, _, i + 1, .cons r t => .cons r (Rps.eraseIdx i t)
theorem Rps.mapV : ∀ {xs : List V}, Rps K H (xs.map D.v) xs
  | [] => .nil
  | _ :: _ => .cons (.v _) Rps.mapV
theorem Rps.ofV : ∀ {ys : List V} {xs : List V}, Rps K H (ys.map D.v) xs → xs = ys
  | [], _, .nil => rfl
  | _ :: _, _, .cons (.v _) t => by rw [Rps.ofV t]
end
/-! ### objects that change -/
/-- the written part, and what the module's names hold -/
structure Gv where
  K : PySem.W.Frag
  mg : Str → Option Value
abbrev _root_.L2.Cx.gv (X : Cx) : Gv := ⟨X.K, X.mg⟩
inductive O where
  | lst (ds : List D)
  /-- a dict with plain keys, one whose keys are tuples of plain keys -/
  | dk (kvs : List (Key × D))
  | dt (kvs : List (List Key × D))
  /-- an instance of the class of that name -/
  | ins (C : Str) (fs : List (Str × D))
abbrev Hd := Addr → Option O
def put (h : Hd) (a : Addr) (o : O) : Hd := fun b => if b = a then some o else h b
theorem put_same {h : Hd} {a : Addr} {o : O} : put h a o a = some o := by unfold put; rw [if_pos rfl]
theorem put_ne {h : Hd} {a b : Addr} {o : O} (n : b ≠ a) : put h a o b = h b := by unfold put; rw [if_neg n]
theorem put_put {h : Hd} {a : Addr} {o u : O} : put (put h a o) a u = put h a u := by
  funext b; unfold put; split <;> rfl
def RpK {κ : Type} (G : Gv) (H : Hp) : List (κ × D) → List (κ × V) → Prop := Paired fun p q => p.1 = q.1 ∧ Rp G.K H p.2 q.2
def OkO (G : Gv) (H : Hp) : O → HO → Prop
  | .lst ds, o => ∃ vs, o = .lst vs ∧ Rps G.K H ds vs
  | .dk kvs, o => ∃ vs, o = .dK vs ∧ RpK G H kvs vs
  | .dt kvs, o => ∃ vs, o = .dT vs ∧ RpK G H kvs vs
  | .ins C fs, o => ∃ a dx vs, G.mg C = some (.ref a) ∧ o = .ins a dx vs ∧ RpK G H fs vs
theorem RpK.stb {κ : Type} {G : Gv} {H H' : Hp} (s : Stb H H') {kvs : List (κ × D)} {vs : List (κ × V)} (r : RpK G H kvs vs) : RpK G H' kvs vs :=
  Paired.mapP r fun _ _ z => ⟨z.1, z.2.stb s⟩
theorem OkO.stb {G : Gv} {H H' : Hp} (s : Stb H H') : ∀ {o : O} {u : HO}, OkO G H o u → OkO G H' o u
  | .lst _, _, ⟨vs, e, r⟩ => ⟨vs, e, r.stb s⟩
  | .dk _, _, ⟨vs, e, r⟩ => ⟨vs, e, r.stb s⟩
  | .dt _, _, ⟨vs, e, r⟩ => ⟨vs, e, r.stb s⟩
  | .ins _ _, _, ⟨a, dx, vs, m, e, r⟩ => ⟨a, dx, vs, m, e, r.stb s⟩
/-- the heap of data is held by the abstract heap (which may hold more) -/
def RelH (G : Gv) (H : Hp) (h : Hd) : Prop := ∀ a o, h a = some o → ∃ u, H a = some u ∧ OkO G H o u
abbrev Sd := List (Option D)
def RelS (G : Gv) (H : Hp) (σ : Sd) (σV : St) : Prop := σV.length = σ.length ∧ ∀ (i : Nat) (d : D), σ[i]? = some (some d) → ∃ x, σV[i]? = some (some x) ∧ Rp G.K H d x
section
variable {G : Gv} {H H' : Hp} {h h' : Hd} {σ : Sd} {σV : St} {a : Addr} {o : O} {u : HO}
theorem RelH.free (r : RelH G H h) (e : H a = none) : h a = none := by
  cases q : h a with
  | none => rfl
  | some o => obtain ⟨u, e', _⟩ := r a o q; rw [e] at e'; cases e'
theorem RelH.same (r : RelH G H h) (s : ∀ b o, H b = some o → H' b = some o) (st : Stb H H') : RelH G H' h := fun a o e => by
  obtain ⟨u, e', q⟩ := r a o e
  exact ⟨u, s _ _ e', q.stb st⟩
theorem RelH.new (r : RelH G H h) (e : H a = none) (q : OkO G (upd H a u) o u) : RelH G (upd H a u) (put h a o) := fun b ob eb => by
  by_cases z : b = a
  · subst z; rw [put_same] at eb; cases eb; exact ⟨u, upd_same, q⟩
  · rw [put_ne z] at eb
    obtain ⟨w, e', q'⟩ := r b ob eb
    exact ⟨w, by rw [upd_ne z]; exact e', q'.stb (Stb.new e)⟩
/-- a new object that the data heap does not tell -/
theorem RelH.hid (r : RelH G H h) (e : H a = none) : RelH G (upd H a u) h := r.same (fun b o q => by rw [upd_ne (ne_of_none q e)]; exact q) (Stb.new e)
theorem OkO.mt {G : Gv} {H : Hp} : ∀ {o : O} {u : HO}, OkO G H o u → Mt u
  | .lst _, _, ⟨_, e, _⟩ => by subst e; exact trivial
  | .dk _, _, ⟨_, e, _⟩ => by subst e; exact trivial
  | .dt _, _, ⟨_, e, _⟩ => by subst e; exact trivial
  | .ins _ _, _, ⟨_, _, _, _, e, _⟩ => by subst e; exact trivial
theorem RelH.set {w : HO} (r : RelH G H h) (e : H a = some w) (m : Mt w) (q : OkO G (upd H a u) o u) : RelH G (upd H a u) (put h a o) := fun b ob eb => by
  by_cases z : b = a
  · subst z; rw [put_same] at eb; cases eb; exact ⟨u, upd_same, q⟩
  · rw [put_ne z] at eb
    obtain ⟨w', e', q'⟩ := r b ob eb
    exact ⟨w', by rw [upd_ne z]; exact e', q'.stb (Stb.set e m)⟩
theorem RelS.stb (r : RelS G H σ σV) (s : Stb H H') : RelS G H' σ σV := ⟨r.1, fun i d e => by
  obtain ⟨x, e', q⟩ := r.2 i d e
  exact ⟨x, e', q.stb s⟩⟩
theorem RelS.set (r : RelS G H σ σV) {i : Nat} {d : D} {x : V} (q : Rp G.K H d x) : RelS G H (σ.set i (some d)) (σV.set i (some x)) := by
  refine ⟨by rw [List.length_set, List.length_set]; exact r.1, fun j e he => ?_⟩
  by_cases z : i = j
  · subst z
    have hi : i < σ.length := by
      have := (List.getElem?_eq_some_iff.mp he).1
      rwa [List.length_set] at this
    rw [List.getElem?_set_self hi] at he
    cases he
    exact ⟨x, List.getElem?_set_self (by rw [r.1]; exact hi), q⟩
  · rw [List.getElem?_set_ne z] at he
    obtain ⟨y, e', q'⟩ := r.2 j e he
    exact ⟨y, by rw [List.getElem?_set_ne z]; exact e', q'⟩
end
/-- what is tracked and not told by the data heap stands, and stays untold -/
structure Go (G : Gv) (H : Hp) (h : Hd) (H' : Hp) (h' : Hd) : Prop where
  st : Stb H H'
  fr : ∀ a o, H a = some o → h a = none → H' a = some o ∧ h' a = none
  rh : RelH G H' h'
theorem Go.refl {G : Gv} {H : Hp} {h : Hd} (r : RelH G H h) : Go G H h H h := ⟨Stb.refl H, fun _ _ e n => ⟨e, n⟩, r⟩
theorem Go.trans {G : Gv} {H H1 H2 : Hp} {h h1 h2 : Hd} (a : Go G H h H1 h1) (b : Go G H1 h1 H2 h2) : Go G H h H2 h2 :=
  ⟨a.st.trans b.st, fun c o e n => by
    obtain ⟨e1, n1⟩ := a.fr c o e n
    exact b.fr c o e1 n1, b.rh⟩
theorem Go.new {G : Gv} {H : Hp} {h : Hd} {p : Addr} {o : O} {u : HO} (r : RelH G H h) (e : H p = none) (q : OkO G (upd H p u) o u) : Go G H h (upd H p u) (put h p o) :=
  ⟨Stb.new e, fun a o' e' n => by
    have z := ne_of_none e' e
    exact ⟨by rw [upd_ne z]; exact e', by rw [put_ne z]; exact n⟩, r.new e q⟩
theorem Go.hid {G : Gv} {H : Hp} {h : Hd} {p : Addr} {u : HO} (r : RelH G H h) (e : H p = none) : Go G H h (upd H p u) h :=
  ⟨Stb.new e, fun a o' e' n => ⟨by rw [upd_ne (ne_of_none e' e)]; exact e', n⟩, r.hid e⟩
theorem Go.set {G : Gv} {H : Hp} {h : Hd} {p : Addr} {o o0 : O} {u w : HO} (r : RelH G H h) (k : h p = some o0) (e : H p = some w) (m : Mt w) (q : OkO G (upd H p u) o u) : Go G H h (upd H p u) (put h p o) :=
  ⟨Stb.set e m, fun a o' e' n => by
    have z : a ≠ p := fun z => by subst z; rw [k] at n; cases n
    exact ⟨by rw [upd_ne z]; exact e', by rw [put_ne z]; exact n⟩, r.set e m q⟩
/-- a smaller data heap -/
def Sub (h h' : Hd) : Prop := ∀ a o, h a = some o → h' a = some o
theorem Sub.refl (h : Hd) : Sub h h := fun _ _ e => e
theorem Sub.trans {h h1 h2 : Hd} (a : Sub h h1) (b : Sub h1 h2) : Sub h h2 := fun c o e => b c o (a c o e)
theorem Sub.none {h h' : Hd} (s : Sub h h') {a : Addr} (e : h' a = Option.none) : h a = Option.none := by
  cases q : h a with
  | none => rfl
  | some o => rw [s a o q] at e; cases e
theorem Sub.put {h : Hd} {a : Addr} {o : O} (n : h a = Option.none) : Sub h (put h a o) := fun b u e => by
  have z : b ≠ a := fun z => by subst z; rw [n] at e; cases e
  rw [put_ne z]; exact e
theorem RelH.sub {G : Gv} {H : Hp} {h h' : Hd} (r : RelH G H h') (s : Sub h h') : RelH G H h := fun a o e => r a o (s a o e)
theorem Go.drop {G : Gv} {H H' : Hp} {h h' hs : Hd} (g : Go G H h H' h') (s : Sub hs h') : Go G H h H' hs :=
  ⟨g.st, fun a o e n => ⟨(g.fr a o e n).1, s.none (g.fr a o e n).2⟩, g.rh.sub s⟩
/-- a region's beginning -/
structure Bs where
  H : Hp
  h : Hd
/-- the state as data, and as values -/
structure R0 (G : Gv) (B : Bs) (σ : Sd) (h : Hd) (σV : St) (H : Hp) : Prop where
  go : Go G B.H B.h H h
  s : RelS G H σ σV
theorem R0.h {G : Gv} {B : Bs} {σ : Sd} {h : Hd} {σV : St} {H : Hp} (r : R0 G B σ h σV H) : RelH G H h := r.go.rh
theorem R0.next {G : Gv} {B : Bs} {H H' : Hp} {σ : Sd} {σV : St} {h h' : Hd} (r : R0 G B σ h σV H) (g : Go G H h H' h') : R0 G B σ h' σV H' := ⟨r.go.trans g, r.s.stb g.st⟩
/-! ### readings over data -/
abbrev KD := D → Hd → Prop
abbrev ED := Sd → Hd → KD → Prop
abbrev TD := Sd → Hd → (Bool → Hd → Prop) → Prop
abbrev AD := Sd → Hd → (List D → Hd → Prop) → Prop
structure EndsD where
  nx : Sd → Hd → Prop
  rt : KD
  bk : Sd → Hd → Prop := fun _ _ => False
  ct : Sd → Hd → Prop := fun _ _ => False
abbrev SD := EndsD → Sd → Hd → Prop
def OutE (G : Gv) (H : Hp) (h : Hd) (Q : KD) (QV : VK) : Prop := ∀ d h' v H', Q d h' → Go G H h H' h' → Rp G.K H' d v → QV v H'
def OutT (G : Gv) (H : Hp) (h : Hd) (Q : Bool → Hd → Prop) (QV : Bool → Hp → Prop) : Prop := ∀ b h' H', Q b h' → Go G H h H' h' → QV b H'
/-- n: how many there are -/
def OutA (G : Gv) (n : Nat) (H : Hp) (h : Hd) (Q : List D → Hd → Prop) (QV : List V → Hp → Prop) : Prop := ∀ ds h' vs H', Q ds h' → Go G H h H' h' → Rps G.K H' ds vs → ds.length = n → QV vs H'
def OutN (G : Gv) (H : Hp) (h : Hd) (Q : Sd → Hd → Prop) (QV : St → Hp → Prop) : Prop := ∀ σ' h' σV' H', Q σ' h' → Go G H h H' h' → RelS G H' σ' σV' → QV σV' H'
structure OutS (G : Gv) (H : Hp) (h : Hd) (D : EndsD) (DV : Ends) : Prop where
  nx : OutN G H h D.nx DV.nx
  rt : OutE G H h D.rt DV.rt
  bk : OutN G H h D.bk DV.bk
  ct : OutN G H h D.ct DV.ct
def lE (G : Gv) (B : Bs) (t : ED) : TE := fun σV H QV => ∃ σ h Q, R0 G B σ h σV H ∧ t σ h Q ∧ OutE G H h Q QV
def lT (G : Gv) (B : Bs) (t : TD) : TT := fun σV H QV => ∃ σ h Q, R0 G B σ h σV H ∧ t σ h Q ∧ OutT G H h Q QV
def lA (G : Gv) (B : Bs) (n : Nat) (t : AD) : TA := fun σV H QV => ∃ σ h Q, R0 G B σ h σV H ∧ t σ h Q ∧ OutA G n H h Q QV
def lS (G : Gv) (B : Bs) (t : SD) : TS := fun DV σV H => ∃ σ h D, R0 G B σ h σV H ∧ t D σ h ∧ OutS G H h D DV
section
variable {G : Gv} {H H' : Hp} {h h' : Hd}
theorem OutE.on {Q : KD} {QV : VK} (o : OutE G H h Q QV) (s : Go G H h H' h') : OutE G H' h' Q QV := fun d h' v H'' q g => o d h' v H'' q (s.trans g)
theorem OutT.on {Q : Bool → Hd → Prop} {QV : Bool → Hp → Prop} (o : OutT G H h Q QV) (s : Go G H h H' h') : OutT G H' h' Q QV := fun d h' H'' q g => o d h' H'' q (s.trans g)
theorem OutA.on {n : Nat} {Q : List D → Hd → Prop} {QV : List V → Hp → Prop} (o : OutA G n H h Q QV) (s : Go G H h H' h') : OutA G n H' h' Q QV := fun d h' v H'' q g => o d h' v H'' q (s.trans g)
theorem OutN.on {Q : Sd → Hd → Prop} {QV : St → Hp → Prop} (o : OutN G H h Q QV) (s : Go G H h H' h') : OutN G H' h' Q QV := fun d h' v H'' q g => o d h' v H'' q (s.trans g)
theorem OutS.on {D : EndsD} {DV : Ends} (o : OutS G H h D DV) (s : Go G H h H' h') : OutS G H' h' D DV := ⟨o.nx.on s, o.rt.on s, o.bk.on s, o.ct.on s⟩
end
def DE (X : Cx) (B : Bs) (e : Expr) (t : ED) : Prop := PE X e (lE X.gv B t)
def DT (X : Cx) (B : Bs) (e : Expr) (t : TD) : Prop := PT X e (lT X.gv B t)
def DW (X : Cx) (B : Bs) (e : Expr) (t : TD) : Prop := PW X e (lT X.gv B t)
def DA (X : Cx) (B : Bs) (es : List Expr) (t : AD) : Prop := PA X es (lA X.gv B es.length t)
def DS (X : Cx) (B : Bs) (st : Stmt) (t : SD) : Prop := PS X st (lS X.gv B t)
def DSs (X : Cx) (B : Bs) (st : List Stmt) (t : SD) : Prop := PSs X st (lS X.gv B t)
theorem PE.imp {X : Cx} {e : Expr} {t t' : TE} (h : PE X e t) (w : ∀ σ H Q, t' σ H Q → t σ H Q) : PE X e t' := ⟨fun pins s σ H Q I q => h.run pins s σ H Q I (w σ H Q q)⟩
theorem PT.imp {X : Cx} {e : Expr} {t t' : TT} (h : PT X e t) (w : ∀ σ H Q, t' σ H Q → t σ H Q) : PT X e t' := ⟨fun pins s σ H Q I q => h.run pins s σ H Q I (w σ H Q q)⟩
theorem PW.imp {X : Cx} {e : Expr} {t t' : TT} (h : PW X e t) (w : ∀ σ H Q, t' σ H Q → t σ H Q) : PW X e t' := ⟨fun wh pins s σ H Q I q => h.run wh pins s σ H Q I (w σ H Q q)⟩
theorem PA.imp {X : Cx} {es : List Expr} {t t' : TA} (h : PA X es t) (w : ∀ σ H Q, t' σ H Q → t σ H Q) : PA X es t' := ⟨fun pos pins s σ H Q I q => h.run pos pins s σ H Q I (w σ H Q q)⟩
theorem PS.imp {X : Cx} {st : Stmt} {t t' : TS} (h : PS X st t) (w : ∀ D σ H, t' D σ H → t D σ H) : PS X st t' := ⟨fun pins s σ H D I q => h.run pins s σ H D I (w D σ H q)⟩
theorem PSs.imp {X : Cx} {st : List Stmt} {t t' : TS} (h : PSs X st t) (w : ∀ D σ H, t' D σ H → t D σ H) : PSs X st t' := ⟨fun pins s σ H D I q => h.run pins s σ H D I (w D σ H q)⟩
/-! ### names, constants -/
def gS : Sd → Nat → Option D
  | [], _ => none
  | x :: _, 0 => x
  | _ :: r, n + 1 => gS r n
def sS : Sd → Nat → D → Sd
  | [], _, _ => []
  | _ :: r, 0, d => some d :: r
  | x :: r, n + 1, d => x :: sS r n d
theorem sS_eq : ∀ (σ : Sd) (i : Nat) (d : D), sS σ i d = σ.set i (some d)
  | [], _, _ => rfl
  | _ :: _, 0, _ => rfl
  | x :: r, n + 1, d => by rw [sS, sS_eq r n d, List.set_cons_succ]
theorem gS_eq : ∀ (σ : Sd) (i : Nat) (d : D), gS σ i = some d → σ[i]? = some (some d)
  | [], _, _, h => by cases h
  | x :: _, 0, d, h => by rw [gS] at h; subst h; rfl
  | _ :: r, n + 1, d, h => by rw [gS] at h; simpa using gS_eq r n d h
def dVar (i : Nat) : ED := fun σ h Q => match gS σ i with
  | some d => Q d h
  | none => False
def dC (d : D) : ED := fun _ h Q => Q d h
section
variable {X : Cx} {B : Bs}
theorem de_var (i : Nat) {x : Str} {pos : Pos} (hN : X.N[i]? = some x := by rfl) (hv : Vis X.env.scope x := by first | exact Or.inl rfl | exact Or.inr (Or.inl rfl) | exact Or.inr (Or.inr rfl)) (hd : (x == ("__debug__" : Str)) = false := by decide)
    (hcd : (x == ("__classdict__" : Str)) = false := by decide) : DE X B (.Name x pos) (dVar i) :=
  PE.imp (pe_var hN hv hd hcd) fun σV H QV ⟨σ, h, Q, r, q, o⟩ => by
    unfold dVar at q
    split at q
    · rename_i d e
      obtain ⟨x, e', rp⟩ := r.s.2 i d (gS_eq _ _ _ e)
      exact ⟨x, e', o d h x H q (Go.refl r.h) rp⟩
    · exact q.elim
theorem de_c {e : Expr} {x : V} (p : PE X e (tC x)) : DE X B e (dC (.v x)) := PE.imp p fun σV H QV ⟨σ, h, Q, r, q, o⟩ => o _ h x H q (Go.refl r.h) (.v x)
theorem de_int {i j pos} : DE X B (.Constant (.int i) j pos) (dC (.v (.int i))) := de_c pe_int
theorem de_bl {b j pos} : DE X B (.Constant (.bool b) j pos) (dC (.v (.bl b))) := de_c pe_bl
theorem de_non {j pos} : DE X B (.Constant .none j pos) (dC (.v .non)) := de_c pe_non
theorem de_str {x j pos} : DE X B (.Constant (.str x) j pos) (dC (.v (.str x))) := de_c pe_str
/-- a module's constant (a tuple, a text, a number) -/
theorem de_glob {x : Str} {d : D} {v : V} {u : Value} {pos : Pos} (hg : Gl X x) (hm : X.mg x = some u) (r : RelV v u) (rp : ∀ H, Rp X.K H d v) (hd : (x == ("__debug__" : Str)) = false := by decide) : DE X B (.Name x pos) (dC d) :=
  PE.imp (pe_glob hg hm r hd) fun σV H QV ⟨σ, h, Q, r, q, o⟩ => o d h v H q (Go.refl r.h) (rp H)
/-! ### operators -/
/-! ### what a reading leaves to its reader: simp does not look into these -/
inductive Bx (p q : Prop) : Type
  | mk
def dIte (c : Prop) [Decidable c] (t u : Prop) (_ : Bx t u) : Prop := if c then t else u
theorem dIte_true {t u : Prop} {b : Bx t u} [Decidable True] : dIte True t u b = t := if_pos trivial
theorem dIte_false {t u : Prop} {b : Bx t u} [Decidable False] : dIte False t u b = u := if_neg id
theorem dIte_pos {c : Prop} [Decidable c] {t u : Prop} {b : Bx t u} (h : c) (q : t) : dIte c t u b := (if_pos h).mpr q
theorem dIte_neg {c : Prop} [Decidable c] {t u : Prop} {b : Bx t u} (h : ¬ c) (q : u) : dIte c t u b := (if_neg h).mpr q
theorem dIte_by {c : Prop} [Decidable c] {t u : Prop} {b : Bx t u} (h : c → t) (h' : ¬ c → u) : dIte c t u b := by
  by_cases hc : c
  · exact dIte_pos hc (h hc)
  · exact dIte_neg hc (h' hc)
inductive BxA (Q : Addr → Prop) : Type
  | mk
/-- a new object -/
def al (h : Hd) (Q : Addr → Prop) (_ : BxA Q) : Prop := ∀ p, h p = none → Q p
abbrev R2d := D → D → Hd → KD → Prop
def l2 (G : Gv) (r : R2d) : R2 := fun xV yV H QV => ∃ x y h Q, Rp G.K H x xV ∧ Rp G.K H y yV ∧ RelH G H h ∧ r x y h Q ∧ OutE G H h Q QV
def DOp (X : Cx) (f : Value → Value → Sem Value) (r : R2d) : Prop := OpR X f (l2 X.gv r)
def d2 (r : R2d) (ta tb : ED) : ED := fun σ h Q => ta σ h fun x h1 => tb σ h1 fun y h2 => r x y h2 Q
theorem l2_of {G : Gv} {r : R2d} {B : Bs} {ta tb : ED} {σV : St} {H : Hp} {QV : VK} (q : lE G B (d2 r ta tb) σV H QV) : tOp (l2 G r) (lE G B ta) (lE G B tb) σV H QV := by
  obtain ⟨σ, h, Q, r0, q, o⟩ := q
  refine ⟨σ, h, _, r0, q, fun x h1 xv H1 q1 g1 rp1 => ?_⟩
  refine ⟨σ, h1, _, r0.next g1, q1, fun y h2 yv H2 q2 g2 rp2 => ?_⟩
  exact ⟨x, y, h2, Q, rp1.stb g2.st, rp2, g2.rh, q2, o.on (g1.trans g2)⟩
variable {a b c : Expr} {ta tb tc : ED} {pos : Pos}
theorem de_op {op : Operator} {r : R2d} (ho : DOp X (binaryOp op) r) (ha : DE X B a ta) (hb : DE X B b tb) : DE X B (.BinOp a op b pos) (d2 r ta tb) :=
  PE.imp (pe_op ho ha hb) fun _ _ _ q => l2_of q
theorem de_cmp {op : CmpOp} {r : R2d} (ho : DOp X (compareOp op) r) (ha : DE X B a ta) (hb : DE X B b tb) (hm : behindInMarks op b = false := by first | exact nomark _ | with_unfolding_all rfl) : DE X B (.Compare a [op] [b] pos) (d2 r ta tb) :=
  PE.imp (pe_cmpR ho ha hb hm) fun _ _ _ q => l2_of q
/-- a value that is a bool, as a test -/
def dTest (t : ED) : TD := fun σ h Q => t σ h fun d h1 => match d with
  | .v (.bl k) => Q k h1
  | _ => False
theorem outTest {G : Gv} {H : Hp} {h : Hd} {Q : Bool → Hd → Prop} {QV : Bool → Hp → Prop} (o : OutT G H h Q QV) : OutE G H h (fun d h1 => match d with
  | .v (.bl k) => Q k h1
  | _ => False) (fun x H' => ∃ k, x = .bl k ∧ QV k H') := fun d h' v H' q g rp => by
  cases rp with
  | t => exact q.elim
  | k => exact q.elim
  | v =>
    cases v with
    | bl k => exact ⟨k, rfl, o k h' H' q g⟩
    | _ => exact q.elim
theorem dt_cmp {op : CmpOp} {r : R2d} (ho : DOp X (compareOp op) r) (ha : DE X B a ta) (hb : DE X B b tb) (hm : behindInMarks op b = false := by first | exact nomark _ | with_unfolding_all rfl) : DT X B (.Compare a [op] [b] pos) (dTest (d2 r ta tb)) :=
  PT.imp (pt_cmpR ho ha hb hm) fun σV H QV ⟨σ, h, Q, r0, q, o⟩ => l2_of (B := B) ⟨σ, h, _, r0, q, outTest o⟩
theorem dt_val {e : Expr} {t : ED} (h : DE X B e t) (he : ∀ whole, isTrue e X.env whole = (do let v ← whole; standAt e.pos; holding [v] (truthy v)) := by intro _; rfl) : DT X B e (dTest t) :=
  PT.imp (pt_val h he) fun σV H QV ⟨σ, h, Q, r0, q, o⟩ => ⟨σ, h, _, r0, q, outTest o⟩
/-- a op b op' c -/
def d3 (r r' : R2d) (ta tb tc : ED) : ED := fun σ h Q => ta σ h fun x h1 => tb σ h1 fun y h2 => r x y h2 fun z h3 => match z with
  | .v (.bl k) => dIte (k = true) (tc σ h3 fun w h4 => r' y w h4 Q) (Q (.v (.bl false)) h3) .mk
  | _ => False
theorem l3_of {G : Gv} {r r' : R2d} {σV : St} {H : Hp} {QV : VK} (q : lE G B (d3 r r' ta tb tc) σV H QV) : tChain (l2 G r) (l2 G r') (lE G B ta) (lE G B tb) (lE G B tc) σV H QV := by
  obtain ⟨σ, h, Q, r0, q, o⟩ := q
  refine ⟨σ, h, _, r0, q, fun x h1 xv H1 q1 g1 rp1 => ?_⟩
  refine ⟨σ, h1, _, r0.next g1, q1, fun y h2 yv H2 q2 g2 rp2 => ?_⟩
  refine ⟨x, y, h2, _, rp1.stb g2.st, rp2, g2.rh, q2, fun z h3 zv H3 q3 g3 rp3 => ?_⟩
  cases rp3 with
  | t => exact q3.elim
  | k => exact q3.elim
  | v =>
    cases zv with
    | bl k =>
      refine ⟨k, rfl, ?_⟩
      cases k with
      | false => exact iteF (o _ h3 _ H3 (by simpa [dIte] using q3) (g1.trans (g2.trans g3)) (.v _))
      | true =>
        refine iteT ⟨σ, h3, _, r0.next (g1.trans (g2.trans g3)), by simpa [dIte] using q3, fun w h4 wv H4 q4 g4 rp4 => ?_⟩
        exact ⟨y, w, h4, Q, (rp2.stb g3.st).stb g4.st, rp4, g4.rh, q4, o.on (g1.trans (g2.trans (g3.trans g4)))⟩
    | _ => exact q3.elim
theorem de_chain {op op' : CmpOp} {r r' : R2d} (ho : DOp X (compareOp op) r) (ho' : DOp X (compareOp op') r') (ha : DE X B a ta) (hb : DE X B b tb) (hc : DE X B c tc)
    (hm : lastMarks [op, op'] [b, c] = false := by with_unfolding_all rfl) : DE X B (.Compare a [op, op'] [b, c] pos) (d3 r r' ta tb tc) :=
  PE.imp (pe_chain ho ho' ha hb hc hm) fun _ _ _ q => l3_of q
theorem dt_chain {op op' : CmpOp} {r r' : R2d} (ho : DOp X (compareOp op) r) (ho' : DOp X (compareOp op') r') (ha : DE X B a ta) (hb : DE X B b tb) (hc : DE X B c tc)
    (hm : lastMarks [op, op'] [b, c] = false := by with_unfolding_all rfl) : DT X B (.Compare a [op, op'] [b, c] pos) (dTest (d3 r r' ta tb tc)) :=
  PT.imp (pt_chain ho ho' ha hb hc hm) fun σV H QV ⟨σ, h, Q, r0, q, o⟩ => l3_of (B := B) ⟨σ, h, _, r0, q, outTest o⟩
/-! ### and, or, not, if -/
variable {uA uB : TD} {rest : List Expr}
def dAnd (t u : TD) : TD := fun σ h Q => t σ h fun c h1 => dIte (c = true) (u σ h1 Q) (Q false h1) .mk
def dOr (t u : TD) : TD := fun σ h Q => t σ h fun c h1 => dIte (c = true) (Q true h1) (u σ h1 Q) .mk
def dNot (t : TD) : TD := fun σ h Q => t σ h fun c h1 => Q (!c) h1
theorem dw_and1 (ha : DT X B a uA) : DW X B (.BoolOp .And [a] pos) uA := pw_and1 ha
theorem dw_or1 (ha : DT X B a uA) : DW X B (.BoolOp .Or [a] pos) uA := pw_or1 ha
theorem dw_and (ha : DT X B a uA) (hb : DW X B (.BoolOp .And (b :: rest) pos) uB) : DW X B (.BoolOp .And (a :: b :: rest) pos) (dAnd uA uB) :=
  PW.imp (pw_and ha hb) fun σV H QV ⟨σ, h, Q, r0, q, o⟩ => ⟨σ, h, _, r0, q, fun c h1 H1 q1 g => by
    cases c with
    | true => exact iteT ⟨σ, h1, Q, r0.next g, (by simpa [dIte] using q1), o.on g⟩
    | false => exact iteF (o _ h1 H1 (by simpa [dIte] using q1) g)⟩
theorem dw_or (ha : DT X B a uA) (hb : DW X B (.BoolOp .Or (b :: rest) pos) uB) : DW X B (.BoolOp .Or (a :: b :: rest) pos) (dOr uA uB) :=
  PW.imp (pw_or ha hb) fun σV H QV ⟨σ, h, Q, r0, q, o⟩ => ⟨σ, h, _, r0, q, fun c h1 H1 q1 g => by
    cases c with
    | true => exact iteT (o _ h1 H1 (by simpa [dIte] using q1) g)
    | false => exact iteF ⟨σ, h1, Q, r0.next g, (by simpa [dIte] using q1), o.on g⟩⟩
theorem DW.dt {e : Expr} {t : TD} (h : DW X B e t) : DT X B e t := PW.pt h
theorem dt_not (ha : DT X B a uA) : DT X B (.UnaryOp .Not a pos) (dNot uA) :=
  PT.imp (pt_not ha) fun σV H QV ⟨σ, h, Q, r0, q, o⟩ => ⟨σ, h, _, r0, q, fun c h1 H1 q1 g => o _ h1 H1 q1 g⟩
/-- .. as values (bools) -/
def dAndV (ta tb : ED) : ED := fun σ h Q => ta σ h fun d h1 => match d with
  | .v (.bl k) => dIte (k = true) (tb σ h1 Q) (Q (.v (.bl false)) h1) .mk
  | _ => False
def dOrV (ta tb : ED) : ED := fun σ h Q => ta σ h fun d h1 => match d with
  | .v (.bl k) => dIte (k = true) (Q (.v (.bl true)) h1) (tb σ h1 Q) .mk
  | _ => False
def dNotV (ta : ED) : ED := fun σ h Q => ta σ h fun d h1 => match d with
  | .v (.bl k) => Q (.v (.bl (!k))) h1
  | _ => False
theorem de_one {op} {t : ED} (h : DE X B a t) : DE X B (.BoolOp op [a] pos) t := pe_one h
theorem de_and (ha : DE X B a ta) (hb : DE X B (.BoolOp .And (b :: rest) pos) tb) : DE X B (.BoolOp .And (a :: b :: rest) pos) (dAndV ta tb) :=
  PE.imp (pe_and ha hb) fun σV H QV ⟨σ, h, Q, r0, q, o⟩ => ⟨σ, h, _, r0, q, fun d h1 v H1 q1 g rp => by
    cases rp with
    | t => exact q1.elim
    | k => exact q1.elim
    | v =>
      cases v with
      | bl k =>
        refine ⟨k, rfl, ?_⟩
        cases k with
        | true => exact iteT ⟨σ, h1, Q, r0.next g, by simpa [dIte] using q1, o.on g⟩
        | false => exact iteF (o _ h1 _ H1 (by simpa [dIte] using q1) g (.v _))
      | _ => exact q1.elim⟩
theorem de_or (ha : DE X B a ta) (hb : DE X B (.BoolOp .Or (b :: rest) pos) tb) : DE X B (.BoolOp .Or (a :: b :: rest) pos) (dOrV ta tb) :=
  PE.imp (pe_or ha hb) fun σV H QV ⟨σ, h, Q, r0, q, o⟩ => ⟨σ, h, _, r0, q, fun d h1 v H1 q1 g rp => by
    cases rp with
    | t => exact q1.elim
    | k => exact q1.elim
    | v =>
      cases v with
      | bl k =>
        refine ⟨k, rfl, ?_⟩
        cases k with
        | false => exact iteF ⟨σ, h1, Q, r0.next g, by simpa [dIte] using q1, o.on g⟩
        | true => exact iteT (o _ h1 _ H1 (by simpa [dIte] using q1) g (.v _))
      | _ => exact q1.elim⟩
theorem de_not (ha : DE X B a ta) : DE X B (.UnaryOp .Not a pos) (dNotV ta) :=
  PE.imp (pe_not ha) fun σV H QV ⟨σ, h, Q, r0, q, o⟩ => ⟨σ, h, _, r0, q, fun d h1 v H1 q1 g rp => by
    cases rp with
    | t => exact q1.elim
    | k => exact q1.elim
    | v =>
      cases v with
      | bl k => exact ⟨k, rfl, o _ h1 _ H1 q1 g (.v _)⟩
      | _ => exact q1.elim⟩
def dIf (t : TD) (ta tb : ED) : ED := fun σ h Q => t σ h fun c h1 => dIte (c = true) (ta σ h1 Q) (tb σ h1 Q) .mk
theorem de_if {c : Expr} (hc : DT X B c uA) (ha : DE X B a ta) (hb : DE X B b tb) : DE X B (.IfExp c a b pos) (dIf uA ta tb) :=
  PE.imp (pe_ifExp hc ha hb) fun σV H QV ⟨σ, h, Q, r0, q, o⟩ => ⟨σ, h, _, r0, q, fun c h1 H1 q1 g => by
    cases c with
    | true => exact iteT ⟨σ, h1, Q, r0.next g, (by simpa [dIte] using q1), o.on g⟩
    | false => exact iteF ⟨σ, h1, Q, r0.next g, (by simpa [dIte] using q1), o.on g⟩⟩
/-! ### argument lists, displays -/
variable {e : Expr} {es : List Expr} {te : ED} {tr : AD}
def dNil : AD := fun _ h Q => Q [] h
def dCons (ta : ED) (tr : AD) : AD := fun σ h Q => ta σ h fun x h1 => tr σ h1 fun xs h2 => Q (x :: xs) h2
theorem da_nil : DA X B [] dNil := PA.imp pa_nil fun σV H QV ⟨σ, h, Q, r0, q, o⟩ => o _ h _ H q (Go.refl r0.h) .nil rfl
theorem da_cons (ha : DE X B e te) (hr : DA X B es tr) (hs : starEach (e :: es) X.env = (false, eval e X.env) :: starEach es X.env := by rfl) : DA X B (e :: es) (dCons te tr) :=
  PA.imp (pa_cons ha hr hs) fun σV H QV ⟨σ, h, Q, r0, q, o⟩ => ⟨σ, h, _, r0, q, fun x h1 xv H1 q1 g1 rp1 => ⟨σ, h1, _, r0.next g1, q1, fun xs h2 vs H2 q2 g2 rp2 n2 =>
    o _ h2 _ H2 q2 (g1.trans g2) (.cons (rp1.stb g2.st) rp2) (congrArg Nat.succ n2)⟩⟩
/-- a written tuple (its length is that of the text) -/
def dTup (t : AD) : ED := fun σ h Q => t σ h fun xs h1 => Q (.t xs) h1
def dLst (t : AD) : ED := fun σ h Q => t σ h fun xs h1 => al h1 (fun p => Q (.v (.ref p)) (put h1 p (.lst xs))) .mk
theorem de_tup {x1} (h : DA X B es tr) (hl : es.length ≤ sizeLine := by decide) : DE X B (.Tuple es x1 pos) (dTup tr) :=
  PE.imp (pe_tup h) fun σV H QV ⟨σ, h, Q, r0, q, o⟩ => ⟨σ, h, _, r0, q, fun xs h1 vs H1 q1 g1 rp1 n1 =>
    ⟨by rw [← rp1.length, n1]; exact hl, fun p hp => o _ h1 _ _ q1 (g1.trans (Go.hid g1.rh hp)) (.t (SqT.of upd_same) (rp1.stb (Stb.new hp)))⟩⟩
theorem de_lst (h : DA X B es tr) (hl : es.length ≤ sizeLine := by decide) : DE X B (.List es pos) (dLst tr) :=
  PE.imp (pe_lst h) fun σV H QV ⟨σ, h, Q, r0, q, o⟩ => ⟨σ, h, _, r0, q, fun xs h1 vs H1 q1 g1 rp1 n1 =>
    ⟨by rw [← rp1.length, n1]; exact hl, fun p hp => o _ _ _ _ (q1 p (g1.rh.free hp)) (g1.trans (Go.new g1.rh hp ⟨vs, rfl, rp1.stb (Stb.new hp)⟩)) (.v _)⟩⟩
/-! ### statements -/
variable {st : Stmt} {sts : List Stmt} {t u : SD}
def dNext : SD := fun D σ h => D.nx σ h
/-- .. with another way on; the ends of a loop's body -/
def wN (D : EndsD) (n : Sd → Hd → Prop) : EndsD := { D with nx := n }
def wL (D : EndsD) (n : Sd → Hd → Prop) : EndsD := { D with nx := n, ct := n, bk := D.nx }
theorem wN_nx {D : EndsD} {n : Sd → Hd → Prop} : (wN D n).nx = n := rfl
theorem wN_rt {D : EndsD} {n : Sd → Hd → Prop} : (wN D n).rt = D.rt := rfl
theorem wN_bk {D : EndsD} {n : Sd → Hd → Prop} : (wN D n).bk = D.bk := rfl
theorem wN_ct {D : EndsD} {n : Sd → Hd → Prop} : (wN D n).ct = D.ct := rfl
theorem wL_nx {D : EndsD} {n : Sd → Hd → Prop} : (wL D n).nx = n := rfl
theorem wL_rt {D : EndsD} {n : Sd → Hd → Prop} : (wL D n).rt = D.rt := rfl
theorem wL_bk {D : EndsD} {n : Sd → Hd → Prop} : (wL D n).bk = D.nx := rfl
theorem wL_ct {D : EndsD} {n : Sd → Hd → Prop} : (wL D n).ct = n := rfl
def dSeq (t u : SD) : SD := fun D σ h => t (wN D (u D)) σ h
theorem ds_nil : DSs X B [] dNext := PSs.imp pss_nil fun DV σV H ⟨σ, h, D, r0, q, o⟩ => o.nx _ _ _ _ q (Go.refl r0.h) r0.s
theorem ds_cons (h1 : DS X B st t) (h2 : DSs X B sts u) : DSs X B (st :: sts) (dSeq t u) :=
  PSs.imp (pss_cons h1 h2) fun DV σV H ⟨σ, h, D, r0, q, o⟩ => ⟨σ, h, _, r0, q, ⟨fun σ' h' σV' H' q' g' r' => ⟨σ', h', D, ⟨r0.go.trans g', r'⟩, q', o.on g'⟩, o.rt, o.bk, o.ct⟩⟩
theorem ds_one (h1 : DS X B st t) : DSs X B [st] t := pss_one h1
def dBreak : SD := fun D σ h => D.bk σ h
def dCont : SD := fun D σ h => D.ct σ h
theorem ds_pass : DS X B (.Pass pos) dNext := PS.imp ps_pass fun DV σV H ⟨σ, h, D, r0, q, o⟩ => o.nx _ _ _ _ q (Go.refl r0.h) r0.s
theorem ds_break : DS X B (.Break pos) dBreak := PS.imp ps_break fun DV σV H ⟨σ, h, D, r0, q, o⟩ => o.bk _ _ _ _ q (Go.refl r0.h) r0.s
theorem ds_cont : DS X B (.Continue pos) dCont := PS.imp ps_continue fun DV σV H ⟨σ, h, D, r0, q, o⟩ => o.ct _ _ _ _ q (Go.refl r0.h) r0.s
def dDrop (te : ED) : SD := fun D σ h => te σ h fun _ h1 => D.nx σ h1
theorem ds_expr (he : DE X B e te) (hs : swapsWith e none pos.line X.env = pure false := by rfl) : DS X B (.Expr e pos) (dDrop te) :=
  PS.imp (ps_expr he hs) fun DV σV H ⟨σ, h, D, r0, q, o⟩ => ⟨σ, h, _, r0, q, fun d h1 v H1 q1 g rp => o.nx _ _ _ _ q1 g (r0.next g).s⟩
def dRet (te : ED) : SD := fun D σ h => te σ h D.rt
theorem ds_ret (he : DE X B e te) : DS X B (.Return (some e) pos) (dRet te) :=
  PS.imp (ps_ret he) fun DV σV H ⟨σ, h, D, r0, q, o⟩ => ⟨σ, h, _, r0, q, o.rt⟩
def dRetN : SD := fun D _ h => D.rt (.v .non) h
theorem ds_retN : DS X B (.Return none pos) dRetN := PS.imp ps_retN fun DV σV H ⟨σ, h, D, r0, q, o⟩ => o.rt _ _ _ _ q (Go.refl r0.h) (.v _)
def dIfS (c : TD) (t u : SD) : SD := fun D σ h => c σ h fun b h1 => dIte (b = true) (t D σ h1) (u D σ h1) .mk
theorem ds_if {c : Expr} {sa sb : List Stmt} (hc : DT X B c uA) (ha : DSs X B sa t) (hb : DSs X B sb u) : DS X B (.If c sa sb pos) (dIfS uA t u) :=
  PS.imp (ps_if hc ha hb) fun DV σV H ⟨σ, h, D, r0, q, o⟩ => ⟨σ, h, _, r0, q, fun b h1 H1 q1 g => by
    cases b with
    | true => exact iteT ⟨σ, h1, D, r0.next g, (by simpa [dIte] using q1), o.on g⟩
    | false => exact iteF ⟨σ, h1, D, r0.next g, (by simpa [dIte] using q1), o.on g⟩⟩
def dNever : SD := fun _ _ _ => False
theorem ds_never : DS X B st dNever := PS.imp ps_never fun DV σV H ⟨σ, h, D, r0, q, o⟩ => q.elim
theorem dss_never : DSs X B sts dNever := PSs.imp pss_never fun DV σV H ⟨σ, h, D, r0, q, o⟩ => q.elim
end
/-! ### targets -/
abbrev GD := D → Sd → Hd → (Sd → Hd → Prop) → Prop
abbrev GDs := List D → Sd → Hd → (Sd → Hd → Prop) → Prop
def lG (G : Gv) (B : Bs) (g : GD) : TG := fun x σV H QV => ∃ d σ h Q, Rp G.K H d x ∧ R0 G B σ h σV H ∧ g d σ h Q ∧ OutN G H h Q QV
def lGs (G : Gv) (B : Bs) (g : GDs) : TGs := fun xs σV H QV => ∃ ds σ h Q, Rps G.K H ds xs ∧ R0 G B σ h σV H ∧ g ds σ h Q ∧ OutN G H h Q QV
def DG (X : Cx) (B : Bs) (tg : Expr) (g : GD) : Prop := PG X tg (lG X.gv B g)
def DGs (X : Cx) (B : Bs) (tgs : List Expr) (g : GDs) : Prop := PGs X tgs (lGs X.gv B g)
theorem PG.imp {X : Cx} {e : Expr} {t t' : TG} (h : PG X e t) (w : ∀ v σ H Q, t' v σ H Q → t v σ H Q) : PG X e t' := ⟨fun pins s σ H v u Q I r q => h.run pins s σ H v u Q I r (w v σ H Q q)⟩
theorem PGs.imp {X : Cx} {e : List Expr} {t t' : TGs} (h : PGs X e t) (w : ∀ v σ H Q, t' v σ H Q → t v σ H Q) : PGs X e t' := ⟨fun pins s σ H v u Q I r q => h.run pins s σ H v u Q I r (w v σ H Q q)⟩
section
variable {X : Cx} {B : Bs} {pos : Pos}
def nG (i : Nat) : GD := fun d σ h Q => Q (sS σ i d) h
theorem dg_name {i : Nat} {x : Str} (hN : X.N.Nodup) (hi : X.N[i]? = some x := by rfl) (hx : Loc X.env.scope x := by first | exact Or.inl rfl | exact Or.inr rfl) (hf : X.fn x = true ∨ X.env.scope.names.lookup x = some .local := by first | exact .inl rfl | exact .inr rfl | assumption) : DG X B (.Name x pos) (nG i) :=
  PG.imp (pg_name hN hi hx hf) fun v σV H QV ⟨d, σ, h, Q, rp, r0, q, o⟩ => o _ _ _ _ q (Go.refl r0.h) (by rw [sS_eq]; exact r0.s.set rp)
def nilG : GDs := fun ds σ h Q => match ds with | [] => Q σ h | _ => False
def consG (t : GD) (u : GDs) : GDs := fun ds σ h Q => match ds with | d :: r => t d σ h fun σ' h' => u r σ' h' Q | _ => False
theorem dgs_nil : DGs X B [] nilG := PGs.imp pgs_nil fun vs σV H QV ⟨ds, σ, h, Q, rp, r0, q, o⟩ => by
  cases rp with
  | nil => exact ⟨rfl, o _ _ _ _ q (Go.refl r0.h) r0.s⟩
  | cons => exact q.elim
theorem dgs_cons {e : Expr} {es : List Expr} {t : GD} {u : GDs} (h1 : DG X B e t) (h2 : DGs X B es u)
    (hs : (assignEach (e :: es) X.env).map (·.2) = assign e X.env :: (assignEach es X.env).map (·.2) := by rfl) : DGs X B (e :: es) (consG t u) :=
  PGs.imp (pgs_cons h1 h2 hs) fun vs σV H QV ⟨ds, σ, h, Q, rp, r0, q, o⟩ => by
    cases rp with
    | nil => exact q.elim
    | cons rp rps => exact ⟨_, _, rfl, _, σ, h, _, rp, r0, q, fun σ' h' σV' H' q' g' r' => ⟨_, σ', h', Q, rps.stb g'.st, ⟨r0.go.trans g', r'⟩, q', o.on g'⟩⟩
def tupG (n : Nat) (g : GDs) : GD := fun d σ h Q => match d with | .t ds => ds.length = n ∧ g ds σ h Q | _ => False
theorem dg_tup {es : List Expr} {k : Nat} {t : GDs} {n : Nat} (hc : X.calm = true) (h : DGs X B es t)
    (hn : (assignEach es X.env).length = n := by rfl) (hst : (assignEach es X.env).findIdx? (·.1) = none := by rfl) : DG X B (.Tuple es k pos) (tupG n t) :=
  PG.imp (pg_tup hc h hn hst) fun v σV H QV ⟨d, σ, h, Q, rp, r0, q, o⟩ => by
    cases rp with
    | v => exact q.elim
    | k => exact q.elim
    | t sq rps => exact ⟨_, _, rfl, sq, by rw [← rps.length]; exact q.1, _, σ, h, Q, rps, r0, q.2, o⟩
abbrev SetD := D → D → D → Hd → (Hd → Prop) → Prop
def lSet (G : Gv) (t : SetD) : TSet := fun oV iV vV H QV => ∃ o i v h Q, Rp G.K H o oV ∧ Rp G.K H i iV ∧ Rp G.K H v vV ∧ RelH G H h ∧ t o i v h Q ∧ ∀ h' H', Q h' → Go G H h H' h' → QV H'
def DSet (X : Cx) (t : SetD) : Prop := PSet X (lSet X.gv t)
def subG (to ti : ED) (t : SetD) : GD := fun d σ h Q => to σ h fun o h1 => ti σ h1 fun i h2 => t o i d h2 fun h3 => Q σ h3
theorem dg_sub {o i : Expr} {to ti : ED} {t : SetD} (ho : DE X B o to) (hi : DE X B i ti) (hs : DSet X t)
    (ha : ∀ v, assign (.Subscript o i pos) X.env v = (do
      let ov ← holding [v] (eval o X.env)
      let iv ← holding [v, ov] (eval i X.env)
      standAt pos
      holding [v, ov, iv] (setItem ov iv v)
      release [v, ov, iv] []) := by intro _; rfl) : DG X B (.Subscript o i pos) (subG to ti t) :=
  PG.imp (pg_sub ho hi hs ha) fun v σV H QV ⟨d, σ, h, Q, rp, r0, q, out⟩ =>
    ⟨σ, h, _, r0, q, fun od h1 ov H1 q1 g1 rp1 => ⟨σ, h1, _, r0.next g1, q1, fun id h2 iv H2 q2 g2 rp2 =>
      ⟨od, id, d, h2, _, rp1.stb g2.st, rp2, rp.stb (g1.trans g2).st, g2.rh, q2, fun h3 H3 q3 g3 => out σ h3 σV H3 q3 (g1.trans (g2.trans g3)) (r0.next (g1.trans (g2.trans g3))).s⟩⟩⟩
def dAsg (te : ED) (g : GD) : SD := fun D σ h => te σ h fun x h1 => g x σ h1 D.nx
theorem ds_asg {tg e : Expr} {te : ED} {g : GD} (he : DE X B e te) (hg : DG X B tg g) (hs : swapsWithSole [tg] e pos.line X.env = pure false := by rfl) (hw : swappedStores [tg] e X.env = pure none := by rfl)
    (h1 : (assignEach [tg] X.env).map (·.2) = [assign tg X.env] := by rfl) : DS X B (.Assign [tg] e pos) (dAsg te g) :=
  PS.imp (ps_asg he hg hs hw h1) fun DV σV H ⟨σ, h, D, r0, q, o⟩ => ⟨σ, h, _, r0, q, fun d h1 v H1 q1 g rp => ⟨d, σ, h1, _, rp, r0.next g, q1, o.nx.on g⟩⟩
theorem ds_set {i : Nat} {x : Str} {e : Expr} {te : ED} {pos' : Pos} (hN : X.N.Nodup) (he : DE X B e te) (hi : X.N[i]? = some x := by rfl) (hx : Loc X.env.scope x := by first | exact Or.inl rfl | exact Or.inr rfl) (hs : swapsWith e (some (.Name x pos')) pos.line X.env = pure false := by rfl) (hf : X.fn x = true ∨ X.env.scope.names.lookup x = some .local := by first | exact .inl rfl | exact .inr rfl | assumption) :
    DS X B (.Assign [.Name x pos'] e pos) (dAsg te (nG i)) :=
  PS.imp (ps_set hN hi hx he hs hf) fun DV σV H ⟨σ, h, D, r0, q, o⟩ => ⟨σ, h, _, r0, q, fun d h1 v H1 q1 g rp => o.nx _ _ _ _ q1 g (by rw [sS_eq]; exact (r0.next g).s.set rp)⟩
end
end DL
/-! DLb: defs and their promises over data, loops, comprehensions -/
namespace DL
open PySem L2
/-! ### exceptions -/
/-- an exception: its class's name, its fields -/
structure XD where
  cls : Str
  fs : List (Str × D)
def RelX (G : Gv) (H : Hp) (x : XD) (cls : Value) (d : Option Addr) : Prop :=
  G.mg x.cls = some cls ∧ ((x.fs = [] ∧ d = none) ∨ ∃ dd vs, d = some dd ∧ H dd = some (.xd vs) ∧ RpK G H x.fs vs)
def OutX (G : Gv) (H : Hp) (h : Hd) (E : XD → Hd → Prop) (EV : XK) : Prop := ∀ x h' cls d H', E x h' → Go G H h H' h' → RelX G H' x cls d → EV cls d H'
/-- a def's promise over data: arguments, heap, wanted end, wanted exception -/
abbrev SpD := List D → Hd → KD → (XD → Hd → Prop) → Prop
def lSp (G : Gv) (sp : SpD) : Sp := fun vs HV QV EV => ∃ ds h Q E, Rps G.K HV ds vs ∧ RelH G HV h ∧ sp ds h Q E ∧ OutE G HV h Q QV ∧ OutX G HV h E EV
abbrev FnD (P : Program) (w : World) (K : PySem.W.Frag) (mg : Str → Option Value) (base : Heap) (k : Nat) (f : Addr) (fd : FuncData) (ps : List Str) (sp : SpD) : Prop :=
  FnOk P w K mg base (L2.CX P w) k f fd ps (lSp ⟨K, mg⟩ sp)
/-- what a region wants of exceptions -/
abbrev ER := XD → Sd → Hd → Prop
def RegE (G : Gv) (B : Bs) (E : ER) (W : WX) : Prop := ∀ x σ h cls d σV H, E x σ h → R0 G B σ h σV H → RelX G H x cls d → W cls d σV H
structure Rg (X : Cx) (B : Bs) (E : ER) : Prop where
  calm : X.calm = true
  po : PassesOwn (model X.prog X.w) X.A X.env X.xe
  tk : ∃ W, Takes X W ∧ RegE X.gv B E W
abbrev E0d : ER := fun _ _ _ => False
theorem Rg.none {X : Cx} {B : Bs} (c : X.calm = true) (po : PassesOwn (model X.prog X.w) X.A X.env X.xe) : Rg X B E0d := ⟨c, po, _, takes0, fun _ _ _ _ _ _ _ h _ _ => h⟩
section
variable {X : Cx} {B : Bs} {E : ER} {k : Nat} {f : Addr} {fd : FuncData} {ps : List Str} {sp : SpD} {x m : Str} {p pos apos : Pos} {e o : Expr} {es : List Expr} {t : AD} {to : ED}
inductive BxK (Q : KD) (E : XD → Hd → Prop) : Type
  | mk
/-- a call -/
def cl (sp : SpD) (ds : List D) (h : Hd) (Q : KD) (E : XD → Hd → Prop) (_ : BxK Q E) : Prop := sp ds h Q E
def dCall (sp : SpD) (E : ER) (t : AD) : ED := fun σ h Q => t σ h fun ds h1 => cl sp ds h1 Q (fun x h2 => E x σ h2) .mk
theorem lSp_of {G : Gv} {W : WX} (rg : RegE G B E W) {σ : Sd} {h : Hd} {σV : St} {H : Hp} {ds : List D} {vs : List V} {Q : KD} {QV : VK} (r0 : R0 G B σ h σV H) (rp : Rps G.K H ds vs)
    (q : sp ds h Q fun x h2 => E x σ h2) (o : OutE G H h Q QV) : lSp G sp vs H QV (WE W σV) :=
  ⟨ds, h, Q, _, rp, r0.h, q, o, fun x h' cls d H' ex g rx => rg x σ h' cls d σV H' ex (r0.next g) rx⟩
theorem de_call (F : FnD X.prog X.w X.K X.mg X.base k f fd ps sp) (hr : Room k X.A) (rg : Rg X B E) (hm : X.mg x = some (.ref f)) (hk : PySem.W.keepIn X.K (.ref f) = true) (hb : Binds X.K fd ps [])
    (ha : DA X B (e :: es) t) (hg : Gl X x := by rfl) (hdb : (x == ("__debug__" : Str)) = false := by decide) (he : starEach (e :: es) X.env = (false, eval e X.env) :: starEach es X.env := by rfl) (hpl : (backTo pos (starEach es X.env)).any (·.1) = false := by rfl) :
    DE X B (.Call (.Name x p) (e :: es) [] pos) (dCall sp E t) := by
  obtain ⟨W, tk, re⟩ := rg.tk
  exact PE.imp (pe_callS F hr hg hm hk hb (fun σ => passAt tk σ) ha hdb he hpl) fun σV H QV ⟨σ, h, Q, r0, q, o⟩ => ⟨σ, h, _, r0, q, fun ds h1 vs H1 q1 g1 rp1 _ => lSp_of re (r0.next g1) rp1 q1 (o.on g1)⟩
theorem de_call0 (F : FnD X.prog X.w X.K X.mg X.base k f fd ps sp) (hr : Room k X.A) (rg : Rg X B E) (hm : X.mg x = some (.ref f)) (hk : PySem.W.keepIn X.K (.ref f) = true) (hb : Binds X.K fd ps [])
    (hg : Gl X x := by rfl) (hdb : (x == ("__debug__" : Str)) = false := by decide) : DE X B (.Call (.Name x p) [] [] pos) (dCall sp E dNil) := by
  obtain ⟨W, tk, re⟩ := rg.tk
  refine ⟨fun pins s σV H QV I hh => ?_⟩
  obtain ⟨σ, h, Q, r0, q, o⟩ := hh
  refine wpAny_Call_Name_kw (ld_glob I hg hm ?_ hdb)
  exact PySem.W.callWith_K0 I.kIn hk (run_fnS (us := []) F hr hb (passAt tk σV) I .nil (lSp_of re r0 .nil q o))
/-! ### a def's body -/
def startD (N : List Str) (ds : List D) : Sd := ds.map some ++ List.replicate (N.length - ds.length) none
theorem relS_start {G : Gv} {H : Hp} {N : List Str} {ds : List D} {vs : List V} (r : Rps G.K H ds vs) : RelS G H (startD N ds) (L2.start N vs) := by
  have hl := r.length
  refine ⟨by unfold startD L2.start; simp [hl], fun i d e => ?_⟩
  unfold startD at e
  by_cases hi : i < ds.length
  · rw [List.getElem?_append_left (by simpa using hi), List.getElem?_map] at e
    cases q : ds[i]? with
    | none => rw [q] at e; cases e
    | some d' =>
      rw [q] at e; cases e
      obtain ⟨x, ex, rp⟩ := r.get q
      refine ⟨x, ?_, rp⟩
      unfold L2.start
      rw [List.getElem?_append_left (by rw [List.length_map, ← hl]; exact hi), List.getElem?_map, ex]
      rfl
  · rw [List.getElem?_append_right (by simpa using hi), List.getElem?_replicate] at e
    split at e <;> cases e
/-- the ends of a def's body: what the promise does not tell may be dropped -/
def fin (Q : KD) : EndsD := { nx := fun _ h' => ∃ hs, Sub hs h' ∧ Q (.v .non) hs, rt := fun d h' => ∃ hs, Sub hs h' ∧ Q d hs }
variable {P : Program} {w : World} {K : PySem.W.Frag} {mg : Str → Option Value} {base : Heap}
theorem fn_d {nm qual : Str} {stm : Stmt} {N : List Str} (F : Fun K nm qual stm f fd) (S : FnScope N ps (defScope stm)) (len : ∀ ds h Q E, sp ds h Q E → ds.length = ps.length) (rd : ER → SD)
    (der : ∀ (cdv : Value) (A : Around) (outer : List Env) (s : Shared) (H : Hp) (EV : XK) (B : Bs) (E : ER), Rg (cxOf (L2.CX P w) P w K mg base N qual (defScope stm) f cdv A outer s H EV) B E → Room k (A.deeper (PyProof.Rows.envOfC qual (defScope stm) s.heap.objs.size f cdv)) →
      DSs (cxOf (L2.CX P w) P w K mg base N qual (defScope stm) f cdv A outer s H EV) B (defBody stm) (rd E))
    (ok : ∀ ds h Q E, sp ds h Q E → rd (fun x _ h' => E x h') (fin Q) (startD N ds) h) : FnD P w K mg base (k + 1) f fd ps sp := by
  refine F.okX S (fun vs H Q E h => ?_) (fun cdv A outer s H vs QV EV hr h => ?_)
  · obtain ⟨ds, h, Q', E', rp, _, q, _⟩ := h
    rw [← rp.length]
    exact len _ _ _ _ q
  · obtain ⟨ds, h, Q, E, rp, rh, q, oQ, oE⟩ := h
    refine ⟨_, der cdv A outer s H EV ⟨H, h⟩ (fun x _ h' => E x h') ⟨rfl, passes_of rfl, _, takes_of rfl rfl rfl rfl, fun x σ h' cls d σV H' ex r0 rx => oE x h' cls d H' ex r0.go rx⟩ hr, ?_⟩
    refine ⟨startD N ds, h, _, ⟨Go.refl rh, relS_start rp⟩, ok ds h Q E q, ⟨fun σ' h' σV' H' ⟨hs, su, q'⟩ g _ => ?_, fun d h' v H' ⟨hs, su, q'⟩ g r => ?_, fun _ _ _ _ q' _ _ => q'.elim, fun _ _ _ _ q' _ _ => q'.elim⟩⟩
    · exact oQ _ hs _ H' q' (g.drop su) (.v _)
    · exact oQ d hs v H' q' (g.drop su) r
/-- a def of the module's top -/
structure Df (K : PySem.W.Frag) (mg : Str → Option Value) (x : Str) (st : Stmt) (ps : List Str) : Prop where
  ex : ∃ f fd, Fun K x x st f fd ∧ mg x = some (.ref f) ∧ Binds K fd ps []
/-- a def that keeps its promise -/
structure Fd (P : Program) (w : World) (K : PySem.W.Frag) (mg : Str → Option Value) (base : Heap) (x : Str) (k : Nat) (ps : List Str) (sp : SpD) : Prop where
  ex : ∃ f fd, FnD P w K mg base k f fd ps sp ∧ mg x = some (.ref f) ∧ PySem.W.keepIn K (.ref f) = true ∧ Binds K fd ps []
theorem Fd.of {nm : Str} {stm : Stmt} {N : List Str} (D : Df K mg nm stm ps) (S : FnScope N ps (defScope stm)) (len : ∀ ds h Q E, sp ds h Q E → ds.length = ps.length) (rd : ER → SD)
    (der : ∀ (f : Addr) (cdv : Value) (A : Around) (outer : List Env) (s : Shared) (H : Hp) (EV : XK) (B : Bs) (E : ER), Rg (cxOf (L2.CX P w) P w K mg base N nm (defScope stm) f cdv A outer s H EV) B E → Room k (A.deeper (PyProof.Rows.envOfC nm (defScope stm) s.heap.objs.size f cdv)) →
      DSs (cxOf (L2.CX P w) P w K mg base N nm (defScope stm) f cdv A outer s H EV) B (defBody stm) (rd E))
    (ok : ∀ ds h Q E, sp ds h Q E → rd (fun x _ h' => E x h') (fin Q) (startD N ds) h) : Fd P w K mg base nm (k + 1) ps sp := by
  obtain ⟨f, fd, F, m, b⟩ := D.ex
  exact ⟨f, fd, fn_d F S len rd (der f) ok, m, F.kp, b⟩
/-- a promise that is never asked -/
theorem Fd.never {nm : Str} {stm : Stmt} (D : Df K mg nm stm ps) : Fd P w K mg base nm 0 ps (fun _ _ _ _ => False) := by
  obtain ⟨f, fd, F, m, b⟩ := D.ex
  exact ⟨f, fd, ⟨fun _ _ _ _ ⟨_, _, _, _, _, _, h, _⟩ => h.elim, fun _ _ _ _ _ _ _ _ _ _ _ _ _ ⟨_, _, _, _, _, _, h, _⟩ => h.elim⟩, m, F.kp, b⟩
/-- a weaker promise, a higher level -/
theorem Fd.imp {nm : Str} {sp' : SpD} {j : Nat} (F : Fd P w K mg base nm j ps sp) (hj : j ≤ k) (h : ∀ ds h Q E, sp' ds h Q E → sp ds h Q E) : Fd P w K mg base nm k ps sp' := by
  obtain ⟨f, fd, F, m, kp, b⟩ := F.ex
  exact ⟨f, fd, (F.mono hj).imp fun vs H Q E ⟨ds, hh, Q', E', a1, a2, a3, a4, a5⟩ => ⟨ds, hh, Q', E', a1, a2, h _ _ _ _ a3, a4, a5⟩, m, kp, b⟩
end
section
variable {X : Cx} {B : Bs} {E : ER} {k j : Nat} {ps : List Str} {sp : SpD} {x : Str} {p pos : Pos} {e : Expr} {es : List Expr} {t : AD}
theorem de_callF (C : Fd X.prog X.w X.K X.mg X.base x j ps sp) (hr : Room k X.A) (rg : Rg X B E) (ha : DA X B (e :: es) t) (hj : j ≤ k := by decide) (hg : Gl X x := by rfl) (hdb : (x == ("__debug__" : Str)) = false := by decide)
    (he : starEach (e :: es) X.env = (false, eval e X.env) :: starEach es X.env := by rfl) (hpl : (backTo pos (starEach es X.env)).any (·.1) = false := by rfl) : DE X B (.Call (.Name x p) (e :: es) [] pos) (dCall sp E t) := by
  obtain ⟨f, fd, F, m, kp, b⟩ := C.ex
  exact de_call F (hr.mono hj) rg m kp b ha hg hdb he hpl
theorem de_callF0 (C : Fd X.prog X.w X.K X.mg X.base x j ps sp) (hr : Room k X.A) (rg : Rg X B E) (hj : j ≤ k := by decide) (hg : Gl X x := by rfl) (hdb : (x == ("__debug__" : Str)) = false := by decide) : DE X B (.Call (.Name x p) [] [] pos) (dCall sp E dNil) := by
  obtain ⟨f, fd, F, m, kp, b⟩ := C.ex
  exact de_call0 F (hr.mono hj) rg m kp b hg hdb
end
/-! ### what is walked -/
/-- the items, and what must stand at each turn -/
abbrev ID := Sd → Hd → (List D → (Hd → Prop) → Hd → Prop) → Prop
structure ItOk (G : Gv) (J : It) (items : List D) (chk : Hd → Prop) (H1 : Hp) : Prop where
  go : ∀ i H h, Stb H1 H → RelH G H h → chk h → i < items.length → J.go i H
  stop : ∀ i H h, Stb H1 H → RelH G H h → chk h → items.length ≤ i → J.stop i H
  yld : ∀ i H h x H', Stb H1 H → RelH G H h → chk h → i < items.length → J.yld i H x H' → ∃ d, items[i]? = some d ∧ Rp G.K H' d x ∧ Go G H h H' h
def lI (G : Gv) (B : Bs) (t : ID) : TI := fun σV H RV => ∃ σ h R, R0 G B σ h σV H ∧ t σ h R ∧ ∀ items chk h' H' J, R items chk h' → Go G H h H' h' → ItOk G J items chk H' → RV J H'
def DI (X : Cx) (B : Bs) (tg iter : Expr) (t : ID) : Prop := PI X tg iter (lI X.gv B t)
theorem PI.imp {X : Cx} {tg iter : Expr} {t t' : TI} (h : PI X tg iter t) (w : ∀ σ H Q, t' σ H Q → t σ H Q) : PI X tg iter t' := ⟨fun pins s σ H R I q => h.run pins s σ H R I (w σ H R q)⟩
/-- a for loop: exact -/
def dLoop (g : GD) (body : SD) (chk : Hd → Prop) : List D → SD
  | [] => fun D σ h => chk h ∧ D.nx σ h
  | x :: xs => fun D σ h => chk h ∧ g x σ h fun σ2 h2 => body (wL D (dLoop g body chk xs D)) σ2 h2
def dFor (wi : ID) (g : GD) (body : SD) : SD := fun D σ h => wi σ h fun items chk h1 => dLoop g body chk items D σ h1
section
variable {X : Cx} {B : Bs} {E : ER}
theorem ds_for {tg iter : Expr} {body : List Stmt} {wi : ID} {g : GD} {tb : SD} {pos : Pos} (rg : Rg X B E) (hi : DI X B tg iter wi) (hg : DG X B tg g) (hb : DSs X B body tb)
    (hs : ∀ x, foldedSetIterable iter X.env x = pure x := by intro _; rfl) : DS X B (.For tg iter body [] pos) (dFor wi g tb) :=
  PS.imp (ps_for rg.po rg.calm hi hg hb hs) fun DV σV H ⟨σ, h, D, r0, q, o⟩ => ⟨σ, h, _, r0, q, fun items chk h1 H1 J q1 g1 jo => by
    refine ⟨fun i m σV' H' => ∃ σ' h', Go X.gv H1 h1 H' h' ∧ RelS X.gv H' σ' σV' ∧ m = items.length - i ∧ i ≤ items.length ∧ dLoop g tb chk (items.drop i) D σ' h', ⟨items.length, σ, h1, Go.refl g1.rh, r0.s.stb g1.st, by simp, Nat.zero_le _, by simpa using q1⟩, ?_⟩
    rintro i m σV' H' ⟨σ', h', g2, rs, rfl, hi, ql⟩
    by_cases hlt : i < items.length
    · rw [List.drop_eq_getElem_cons hlt] at ql
      obtain ⟨hc, ql⟩ := ql
      refine .inr ⟨jo.go i H' h' g2.st g2.rh hc hlt, fun σV2 H2 => ∃ σ2 h2, Go X.gv H1 h1 H2 h2 ∧ RelS X.gv H2 σ2 σV2 ∧ dLoop g tb chk (items.drop (i + 1)) D σ2 h2, fun σV2 H2 ⟨σ2, h2, g3, rs3, q3⟩ => ⟨items.length - (i + 1), by omega, σ2, h2, g3, rs3, rfl, hlt, q3⟩, fun x H3 y => ?_⟩
      obtain ⟨d, ed, rd, g3⟩ := jo.yld i H' h' x H3 g2.st g2.rh hc hlt y
      rw [List.getElem?_eq_getElem hlt] at ed
      cases ed
      have g13 := g2.trans g3
      refine ⟨_, σ', h', _, rd, ⟨(r0.go.trans g1).trans g13, rs.stb g3.st⟩, ql, fun σ4 h4 σV4 H4 q4 g4 r4 => ?_⟩
      have g14 := g13.trans g4
      refine ⟨σ4, h4, _, ⟨(r0.go.trans g1).trans g14, r4⟩, q4, ⟨fun σ5 h5 σV5 H5 q5 g5 r5 => ⟨σ5, h5, g14.trans g5, r5, q5⟩, (o.on (g1.trans g14)).rt, (o.on (g1.trans g14)).nx, fun σ5 h5 σV5 H5 q5 g5 r5 => ⟨σ5, h5, g14.trans g5, r5, q5⟩⟩⟩
    · rw [List.drop_eq_nil_of_le (by omega)] at ql
      obtain ⟨hc, ql⟩ := ql
      exact .inl ⟨jo.stop i H' h' g2.st g2.rh hc (by omega), o.nx σ' h' σV' H' ql (g1.trans g2) rs⟩⟩
/-! ### comprehensions -/
/-- slots forgotten -/
def uS : Sd → Nat → Sd
  | [], _ => []
  | _ :: r, 0 => none :: r
  | x :: r, n + 1 => x :: uS r n
theorem uS_eq : ∀ (σ : Sd) (i : Nat), uS σ i = σ.set i none
  | [], _ => rfl
  | _ :: _, 0 => rfl
  | x :: r, n + 1 => by rw [uS, uS_eq r n, List.set_cons_succ]
def wD (σ : Sd) : List Nat → Sd
  | [] => σ
  | v :: vs => uS (wD σ vs) v
theorem relS_wipe {G : Gv} {H : Hp} {σ : Sd} {σV : St} (r : RelS G H σ σV) : ∀ vs : List Nat, RelS G H (wD σ vs) (wipe σV vs)
  | [] => r
  | v :: vs => by
    have ih := relS_wipe r vs
    refine ⟨by rw [wD, wipe, uS_eq, List.length_set, List.length_set]; exact ih.1, fun i d e => ?_⟩
    rw [wD, uS_eq] at e
    by_cases z : v = i
    · subst z
      by_cases hl : v < (wD σ vs).length
      · rw [List.getElem?_set_self hl] at e; cases e
      · rw [List.getElem?_eq_none (by simpa using hl)] at e; cases e
    · rw [List.getElem?_set_ne z] at e
      obtain ⟨x, ex, rp⟩ := ih.2 i d e
      exact ⟨x, by rw [wipe, List.getElem?_set_ne z]; exact ex, rp⟩
/-- a comprehension's target: stores own names alone -/
structure GW (G : Gv) (gV : TG) (g : GD) (vs : List Nat) : Prop where
  run : ∀ d x σ h σV H Q QV, Rp G.K H d x → RelS G H σ σV → g d σ h Q → (∀ σ' σV', Q σ' h → RelS G H σ' σV' → wipe σV' vs = wipe σV vs → QV σV' H) → gV x σV H QV
theorem wipe_set {σ : St} {i : Nat} {x : Option V} : ∀ {vs : List Nat}, i ∈ vs → wipe (σ.set i x) vs = wipe σ vs
  | v :: vs, hm => by
    rw [wipe, wipe]
    by_cases hi : i ∈ vs
    · rw [wipe_set hi]
    · have e : i = v := by
        rcases List.mem_cons.mp hm with e | e
        · exact e
        · exact (hi e).elim
      subst e
      have : ∀ vs : List Nat, i ∉ vs → wipe (σ.set i x) vs = (wipe σ vs).set i x := by
        intro vs
        induction vs with
        | nil => intro _; rfl
        | cons u us ih =>
          intro hn
          simp only [List.mem_cons, not_or] at hn
          rw [wipe, wipe, ih hn.2, List.set_comm _ _ (hn.1)]
      rw [this vs hi, List.set_set]
theorem gw_name {G : Gv} {i : Nat} {vs : List Nat} (hi : i ∈ vs := by decide) : GW G (gName i) (nG i) vs := ⟨fun d x σ h σV H Q QV rp rs q k => k _ _ q (by rw [sS_eq]; exact rs.set rp) (wipe_set hi)⟩
def namesV : List Nat → TGs
  | [] => gNil
  | i :: r => gCons (gName i) (namesV r)
def namesD : List Nat → GDs
  | [] => nilG
  | i :: r => consG (nG i) (namesD r)
theorem gws_names {G : Gv} {vs : List Nat} : ∀ {is : List Nat}, (∀ i ∈ is, i ∈ vs) → ∀ (ds : List D) (xs : List V) (σ : Sd) (h : Hd) (σV : St) (H : Hp) (Q : Sd → Hd → Prop) (QV : St → Hp → Prop), Rps G.K H ds xs → RelS G H σ σV → namesD is ds σ h Q →
      (∀ σ' σV', Q σ' h → RelS G H σ' σV' → wipe σV' vs = wipe σV vs → QV σV' H) → namesV is xs σV H QV
  | [], _, ds, xs, σ, h, σV, H, Q, QV, rp, rs, q, k => by
    cases rp with
    | nil => exact ⟨rfl, k _ _ q rs rfl⟩
    | cons => exact q.elim
  | i :: is, hi, ds, xs, σ, h, σV, H, Q, QV, rp, rs, q, k => by
    cases rp with
    | nil => exact q.elim
    | cons r rr =>
      refine ⟨_, _, rfl, ?_⟩
      refine gws_names (fun j hj => hi j (List.mem_cons_of_mem _ hj)) _ _ _ h _ H Q QV rr (rs.set r) (by have q' : namesD is _ (sS σ i _) h Q := q; rw [sS_eq] at q'; exact q') fun σ' σV' q' r' w' => k σ' σV' q' r' (w'.trans (wipe_set (hi i List.mem_cons_self)))
theorem gw_tup {G : Gv} {is vs : List Nat} {n : Nat} (hi : ∀ i ∈ is, i ∈ vs := by decide) : GW G (gTup G.K n (namesV is)) (tupG n (namesD is)) vs := ⟨fun d x σ h σV H Q QV rp rs q k => by
  cases rp with
  | v => exact q.elim
  | k => exact q.elim
  | t sq rps => exact ⟨_, _, rfl, sq, by rw [← rps.length]; exact q.1, gws_names hi _ _ σ h σV H Q QV rps rs q.2 k⟩⟩
/-- a clause's tests -/
def DTs (X : Cx) (B : Bs) (ifs : List Expr) (t : TD) : Prop := PTs X ifs (lT X.gv B t)
def dYes : TD := fun _ h Q => Q true h
theorem dts_nil : DTs X B [] dYes := ⟨fun pins s σV H QV I ⟨σ, h, Q, r0, q, o⟩ => pts_nil.run pins s σV H QV I (o true h H q (Go.refl r0.h))⟩
theorem dts_one {c : Expr} {t : TD} (h : DT X B c t) : DTs X B [c] t := pts_one h
def dComp (g : GD) (tt : TD) (te : ED) (chk : Hd → Prop) : List D → List D → Sd → Hd → (List D → Hd → Prop) → Prop
  | [], acc, _, h, Q => chk h ∧ Q acc h
  | x :: xs, acc, σ, h, Q => chk h ∧ g x σ h fun σ2 h2 => tt σ2 h2 fun b h3 => dIte (b = true) (te σ2 h3 fun y h4 => acc.length < sizeLine ∧ dComp g tt te chk xs (acc ++ [y]) σ h4 Q) (dComp g tt te chk xs acc σ h3 Q) .mk
inductive BxC (Q : List D → Hd → Prop) : Type
  | mk
/-- a comprehension -/
def cmp (g : GD) (tt : TD) (te : ED) (chk : Hd → Prop) (items : List D) (σ : Sd) (h : Hd) (Q : List D → Hd → Prop) (_ : BxC Q) : Prop := dComp g tt te chk items [] σ h Q
def dLc (wi : ID) (g : GD) (tt : TD) (te : ED) (vs : List Nat) : ED := fun σ h Q => wi σ h fun items chk h1 => cmp g tt te chk items (wD σ vs) h1 (fun ys h2 => ∀ p, h2 p = none → Q (.v (.ref p)) (put h2 p (.lst ys))) .mk
theorem set_unset (σ : St) (i j : Nat) : (σ.set i none).set j none = (σ.set j none).set i none := by
  by_cases h : i = j
  · subst h; rfl
  · exact List.set_comm _ _ h
theorem wipe_wipe (σ : St) : ∀ vs : List Nat, wipe (wipe σ vs) vs = wipe σ vs := by
  have push : ∀ (us : List Nat) (σ : St) (i : Nat), wipe (σ.set i none) us = (wipe σ us).set i none := by
    intro us
    induction us with
    | nil => intro _ _; rfl
    | cons u us ih => intro σ i; rw [wipe, wipe, ih, set_unset]
  intro vs
  induction vs with
  | nil => rfl
  | cons v vs ih =>
    rw [wipe]
    rw [show wipe σ (v :: vs) = (wipe σ vs).set v none from rfl, push, ih, List.set_set]
theorem lc_of {wi : ID} {gV : TG} {g : GD} {tt : TD} {te : ED} {vs : List Nat} {G : Gv} {σV : St} {H : Hp} {QV : VK} (gw : GW G gV g vs) (q : lE G B (dLc wi g tt te vs) σV H QV) : tLc (lI G B wi) gV (lT G B tt) (lE G B te) vs σV H QV := by
  obtain ⟨σ, h, Q, r0, q, o⟩ := q
  refine ⟨σ, h, _, r0, q, fun items chk h1 H1 J q1 g1 jo D hD => ?_⟩
  have hD1 : h1 D = none := g1.rh.free hD
  refine ⟨fun i m H' => ∃ h' acc accV, Go G H1 h1 H' h' ∧ h' D = none ∧ H' D = some (.lst accV) ∧ Rps G.K H' acc accV ∧ m = items.length - i ∧ i ≤ items.length ∧ dComp g tt te chk (items.drop i) acc (wD σ vs) h' (fun ys h2 => ∀ p, h2 p = none → Q (.v (.ref p)) (put h2 p (.lst ys))),
    ⟨items.length, h1, [], [], Go.hid g1.rh hD, hD1, upd_same, .nil, by simp, Nat.zero_le _, by simpa [cmp] using q1⟩, ?_⟩
  rintro i m H' ⟨h', acc, accV, g12, nD, eD, ra, rfl, hi, ql⟩
  by_cases hlt : i < items.length
  · rw [List.drop_eq_getElem_cons hlt] at ql
    obtain ⟨hc, ql⟩ := ql
    refine .inr ⟨jo.go i H' h' g12.st g12.rh hc hlt, fun H2 => ∃ h2 acc2 accV2, Go G H1 h1 H2 h2 ∧ h2 D = none ∧ H2 D = some (.lst accV2) ∧ Rps G.K H2 acc2 accV2 ∧ dComp g tt te chk (items.drop (i + 1)) acc2 (wD σ vs) h2 (fun ys h2 => ∀ p, h2 p = none → Q (.v (.ref p)) (put h2 p (.lst ys))),
      fun H2 ⟨h2, acc2, accV2, a1, a2, a3, a4, a5⟩ => ⟨items.length - (i + 1), by omega, h2, acc2, accV2, a1, a2, a3, a4, rfl, hlt, a5⟩, fun x H3 y => ?_⟩
    obtain ⟨d, ed, rd, g3⟩ := jo.yld i H' h' x H3 g12.st g12.rh hc hlt y
    rw [List.getElem?_eq_getElem hlt] at ed
    cases ed
    have g03 : Go G H h H3 h' := g1.trans (g12.trans g3)
    have rw3 : RelS G H3 (wD σ vs) (wipe σV vs) := relS_wipe (r0.s.stb g03.st) vs
    refine gw.run _ x (wD σ vs) h' _ H3 _ _ rd rw3 ql fun σ4 σV4 q4 r4 w4 => ⟨w4.trans (wipe_wipe σV vs), ?_⟩
    refine ⟨σ4, h', _, ⟨r0.go.trans g03, r4⟩, q4, fun b h5 H5 q5 g5 => ?_⟩
    have g25 : Go G H' h' H5 h5 := g3.trans g5
    have fD5 := g25.fr D _ eD nD
    cases b with
    | false =>
      refine iteF ⟨h5, acc, accV, g12.trans g25, fD5.2, fD5.1, ra.stb g25.st, (by simpa [dIte] using q5)⟩
    | true =>
      refine iteT ⟨σ4, h5, _, ⟨r0.go.trans (g03.trans g5), r4.stb g5.st⟩, (by simpa [dIte] using q5), fun yd h6 yv H6 q6 g6 r6 => ?_⟩
      have g26 := g25.trans g6
      have fD6 := g26.fr D _ eD nD
      refine ⟨accV, fD6.1, by rw [← ra.length]; exact q6.1, h6, acc ++ [yd], accV ++ [yv], ?_, fD6.2, upd_same, ?_, q6.2⟩
      · have g16 := g12.trans g26
        refine ⟨g16.st.trans (Stb.set fD6.1 trivial), fun a o' e' n => ?_, fun b o' e' => ?_⟩
        · have z : a ≠ D := ne_of_none e' hD
          exact ⟨by rw [upd_ne z]; exact (g16.fr a o' e' n).1, (g16.fr a o' e' n).2⟩
        · have z : b ≠ D := fun z => by rw [z, fD6.2] at e'; cases e'
          obtain ⟨u, eu, ou⟩ := g26.rh b o' e'
          exact ⟨u, by rw [upd_ne z]; exact eu, ou.stb (Stb.set fD6.1 trivial)⟩
      · exact ((ra.stb g26.st).append (.cons r6 .nil)).stb (Stb.set fD6.1 trivial)
  · rw [List.drop_eq_nil_of_le (by omega)] at ql
    obtain ⟨hc, ql⟩ := ql
    have g02 := g1.trans g12
    refine .inl ⟨jo.stop i H' h' g12.st g12.rh hc (by omega), o _ _ _ H' (ql D nD) ⟨g02.st, fun a o' e' n => ?_, fun b o' e' => ?_⟩ (.v _)⟩
    · have z : a ≠ D := ne_of_none (g1.fr a o' e' n).1 hD
      exact ⟨(g02.fr a o' e' n).1, by rw [put_ne z]; exact (g02.fr a o' e' n).2⟩
    · by_cases z : b = D
      · subst z
        rw [put_same] at e'; cases e'
        exact ⟨_, eD, accV, rfl, ra⟩
      · rw [put_ne z] at e'
        exact g02.rh b o' e'
/-- [elt for target in iter if ..] -/
theorem de_lc {elt tg iter : Expr} {ifs : List Expr} {scope : Scope} {own : List (Str × Nat)} {pos : Pos} {wi : ID} {gV : TG} {g : GD} {tt : TD} {te : ED} (rg : Rg X B E) (hN : X.N.Nodup) (hi : DI X B tg iter wi) (ok : BlkOk X.N X.env.scope scope own)
    (hg : ∀ (s : Shared) (H : Hp) (C : Addr) (cl : List (Str × Addr)) (fp : List Addr), PG (X.blk s H scope (compEnvC scope cl C X.env) fp) tg gV) (gw : GW X.gv gV g (own.map (·.2)))
    (ht : ∀ (s : Shared) (H : Hp) (C : Addr) (cl : List (Str × Addr)) (fp : List Addr), DTs (X.blk s H scope (compEnvC scope cl C X.env) fp) B ifs tt)
    (he : ∀ (s : Shared) (H : Hp) (C : Addr) (cl : List (Str × Addr)) (fp : List Addr), DE (X.blk s H scope (compEnvC scope cl C X.env) fp) B elt te) (hs : ∀ x, foldedSetIterable iter X.env x = pure x := by intro _; rfl) :
    DE X B (.ListComp elt [⟨tg, iter, ifs, 0⟩] scope pos) (dLc wi g tt te (own.map (·.2))) :=
  PE.imp (pe_lc (tt := lT X.gv B tt) (te := lE X.gv B te) rg.calm hN hi ok hg ht he hs) fun σV H QV q => lc_of gw q
theorem ds_setLc {i : Nat} {y : Str} {py : Pos} {elt tg iter : Expr} {ifs : List Expr} {scope : Scope} {own : List (Str × Nat)} {pos spos : Pos} {wi : ID} {gV : TG} {g : GD} {tt : TD} {te : ED} (rg : Rg X B E) (hN : X.N.Nodup) (hy : X.N[i]? = some y) (hyl : X.env.scope.names.lookup y = some .local)
    (hsw : swapsWith (.ListComp elt [⟨tg, iter, ifs, 0⟩] scope pos) (some (.Name y py)) spos.line X.env = pure true) (hi : DI X B tg iter wi) (ok : BlkOk X.N X.env.scope scope own)
    (hg : ∀ (s : Shared) (H : Hp) (C : Addr) (cl : List (Str × Addr)) (fp : List Addr), PG (X.blk s H scope (compEnvC scope cl C X.env) fp) tg gV) (gw : GW X.gv gV g (own.map (·.2)))
    (ht : ∀ (s : Shared) (H : Hp) (C : Addr) (cl : List (Str × Addr)) (fp : List Addr), DTs (X.blk s H scope (compEnvC scope cl C X.env) fp) B ifs tt)
    (he : ∀ (s : Shared) (H : Hp) (C : Addr) (cl : List (Str × Addr)) (fp : List Addr), DE (X.blk s H scope (compEnvC scope cl C X.env) fp) B elt te) (hs : ∀ x, foldedSetIterable iter X.env x = pure x := by intro _; rfl) :
    DS X B (.Assign [.Name y py] (.ListComp elt [⟨tg, iter, ifs, 0⟩] scope pos) spos) (dAsg (dLc wi g tt te (own.map (·.2))) (nG i)) :=
  PS.imp (ps_setLc (tt := lT X.gv B tt) (te := lE X.gv B te) rg.calm hN hy hyl hsw hi ok hg ht he hs) fun DV σV H ⟨σ, h, D, r0, q, o⟩ => lc_of (B := B) gw ⟨σ, h, _, r0, q, fun d h1 v H1 q1 g rp => o.nx _ _ _ _ q1 g (by rw [sS_eq]; exact (r0.next g).s.set rp)⟩
end
end DL
/-! DLc: walks, operators, calls of built-ins, methods, over data -/
namespace DL
open PySem L2
/-- a list that may be read -/
def rdL (h : Hd) (a : Addr) : Option (List D) := match h a with
  | some (.lst xs) => some xs
  | _ => none
theorem rdL_ok {G : Gv} {H : Hp} {h : Hd} {a : Addr} {xs : List D} (r : RelH G H h) (e : rdL h a = some xs) : ∃ vs, SqL G.K H a vs ∧ Rps G.K H xs vs := by
  unfold rdL at e
  split at e
  · rename_i ys q
    cases e
    obtain ⟨u, hu, vs, rfl, rp⟩ := r a _ q
    exact ⟨vs, SqL.of hu, rp⟩
  · cases e
theorem lst_ok {G : Gv} {H : Hp} {h : Hd} {a : Addr} {xs : List D} (r : RelH G H h) (e : h a = some (.lst xs)) : ∃ vs, H a = some (.lst vs) ∧ Rps G.K H xs vs := by
  obtain ⟨u, hu, vs, rfl, rp⟩ := r a _ e
  exact ⟨vs, hu, rp⟩
/-! ### walks -/
section
variable {X : Cx} {B : Bs} {E : ER} {tg : Expr}
def iAny (K : PySem.W.Frag) (tl : TE) : TI := fun σ H R => tl σ H fun x H1 => (∃ a, x = .ref a ∧ (∃ xs, SqL K H1 a xs) ∧ R (Itl K a) H1) ∨ (∃ a, x = .ref a ∧ (∃ xs, SqT K H1 a xs) ∧ R (Itt K a) H1) ∨ ∃ z, x = .str z ∧ R (Its z) H1
theorem pi_any {l : Expr} {tl : TE} (hl : PE X l tl) : PI X tg l (iAny X.K tl) := by
  refine ⟨fun pins s σ H R I h => ?_⟩
  refine thn (hl.run pins s σ H _ I h) fun v s1 ⟨x, H1, I1, r1, q1⟩ => ?_
  rcases q1 with ⟨a, e, ⟨xs, hq⟩, q⟩ | ⟨a, e, ⟨xs, hq⟩, q⟩ | ⟨z, e, q⟩
  · subst e
    cases r1
    obtain ⟨its, rv, p, hz⟩ := I1.list hq
    refine PySem.wpAny_pyIter_list p.isList ?_
    refine ⟨s1.heap.objs.size, [s1.heap.objs.size], _, _, H1, rfl, I1.kept (t' := s1.toks) fun b o e => Heap.get?_push_of_some _ e, turn_list a _, ⟨_, Heap.get?_push_size _ rfl, rfl, rfl⟩, fun b hb => ?_, q⟩
    have e : b = s1.heap.objs.size := by simpa using hb
    subst e
    exact I1.fpOk (Nat.le_refl _) (I1.hok.fresh (Nat.le_refl _))
  · subst e
    cases r1
    obtain ⟨its, rv, p, hz⟩ := I1.tuple hq
    refine PySem.wpAny_pyIter_tuple (show s1.heap.IsTuple a its.toArray from p) ?_
    refine ⟨s1.heap.objs.size, [s1.heap.objs.size], _, _, H1, rfl, I1.kept (t' := s1.toks) fun b o e => Heap.get?_push_of_some _ e, turn_tuple a _, ⟨_, Heap.get?_push_size _ rfl, rfl, rfl⟩, fun b hb => ?_, q⟩
    have e : b = s1.heap.objs.size := by simpa using hb
    subst e
    exact I1.fpOk (Nat.le_refl _) (I1.hok.fresh (Nat.le_refl _))
  · subst e
    obtain ⟨t, rfl⟩ := r1
    cases ha : z.cps.all (· < 128)
    · exact PySem.wpAny_pyIter_wide ha (pi_one (tk := s1.toks) I1 _ (turn_str _ z t "str_iterator" (.inr rfl)) ⟨_, Heap.get?_push_size _ rfl, rfl, rfl⟩ q)
    · exact PySem.wpAny_pyIter_ascii ha (pi_one (tk := s1.toks) I1 _ (turn_str _ z t "str_ascii_iterator" (.inl rfl)) ⟨_, Heap.get?_push_size _ rfl, rfl, rfl⟩ q)
/-- a text's signs -/
def chars (z : Str) : List D := z.cps.toList.map fun c => .v (.str ⟨#[c]⟩)
def iAnyD (te : ED) : ID := fun σ h R => te σ h fun d h1 => match d with
  | .t ds => R ds (fun _ => True) h1
  | .k ds => R ds (fun _ => True) h1
  | .v (.str z) => R (chars z) (fun _ => True) h1
  | .v (.ref a) => match rdL h1 a with
    | some xs => R xs (fun h' => rdL h' a = some xs) h1
    | none => False
  | _ => False
theorem it_tup {G : Gv} {H : Hp} {a : Addr} {ds : List D} {vs : List V} (sq : SqT G.K H a vs) (r : Rps G.K H ds vs) : ItOk G (Itt G.K a) ds (fun _ => True) H where
  go := fun i H' h st rh _ hi => by
    obtain ⟨x, ex, _⟩ := r.get (List.getElem?_eq_getElem hi)
    exact ⟨vs, x, st.sqT sq, ex⟩
  stop := fun i H' h st rh _ hi => ⟨vs, st.sqT sq, by rw [← r.length]; exact hi⟩
  yld := fun i H' h x H2 st rh _ hi y => by
    obtain ⟨rfl, y⟩ := y
    obtain ⟨d, ed, rd⟩ := (r.stb st).get' (y vs (st.sqT sq))
    exact ⟨d, ed, rd, Go.refl rh⟩
theorem SqF.stb {K : PySem.W.Frag} {H H' : Hp} (s : Stb H H') {a : Addr} {xs : List V} (h : SqF K H a xs) : SqF K H' a xs := h.imp (fun ⟨o, e⟩ => ⟨o, s.frz _ _ _ e⟩) id
theorem it_frz {G : Gv} {H : Hp} {a : Addr} {ds : List D} {vs : List V} (sq : SqF G.K H a vs) (r : Rps G.K H ds vs) : ItOk G (Itl G.K a) ds (fun _ => True) H where
  go := fun i H' h st rh _ hi => by
    obtain ⟨x, ex, _⟩ := r.get (List.getElem?_eq_getElem hi)
    exact ⟨vs, x, (sq.stb st).sq, ex⟩
  stop := fun i H' h st rh _ hi => ⟨vs, (sq.stb st).sq, by rw [← r.length]; exact hi⟩
  yld := fun i H' h x H2 st rh _ hi y => by
    obtain ⟨rfl, y⟩ := y
    obtain ⟨d, ed, rd⟩ := (r.stb st).get' (y vs (sq.stb st).sq)
    exact ⟨d, ed, rd, Go.refl rh⟩
theorem it_str {G : Gv} {H : Hp} {z : Str} : ItOk G (Its z) (chars z) (fun _ => True) H where
  go := fun i H' h st rh _ hi => by
    show i < z.cps.size
    simpa [chars] using hi
  stop := fun i H' h st rh _ hi => by
    show z.cps.size ≤ i
    simpa [chars] using hi
  yld := fun i H' h x H2 st rh _ hi y => by
    obtain ⟨rfl, c, ec, rfl⟩ := y
    refine ⟨.v (.str ⟨#[c]⟩), ?_, .v _, Go.refl rh⟩
    unfold chars
    rw [List.getElem?_map, Array.getElem?_toList, ec]
    rfl
theorem it_lst {G : Gv} {H : Hp} {a : Addr} {xs : List D} : ItOk G (Itl G.K a) xs (fun h' => rdL h' a = some xs) H where
  go := fun i H' h st rh hc hi => by
    obtain ⟨vs, sq, r⟩ := rdL_ok rh hc
    obtain ⟨x, ex, _⟩ := r.get (List.getElem?_eq_getElem hi)
    exact ⟨vs, x, sq, ex⟩
  stop := fun i H' h st rh hc hi => by
    obtain ⟨vs, sq, r⟩ := rdL_ok rh hc
    exact ⟨vs, sq, by rw [← r.length]; exact hi⟩
  yld := fun i H' h x H2 st rh hc hi y => by
    obtain ⟨rfl, y⟩ := y
    obtain ⟨vs, sq, r⟩ := rdL_ok rh hc
    obtain ⟨d, ed, rd⟩ := r.get' (y vs sq)
    exact ⟨d, ed, rd, Go.refl rh⟩
theorem di_any {l : Expr} {te : ED} (hl : DE X B l te) : DI X B tg l (iAnyD te) :=
  PI.imp (pi_any hl) fun σV H RV ⟨σ, h, R, r0, q, o⟩ => ⟨σ, h, _, r0, q, fun d h1 v H1 q1 g1 rp => by
    cases rp with
    | t sq r => exact .inr (.inl ⟨_, rfl, ⟨_, sq⟩, o _ _ h1 H1 _ q1 g1 (it_tup sq r)⟩)
    | k sq r => exact .inl ⟨_, rfl, ⟨_, sq.sq⟩, o _ _ h1 H1 _ q1 g1 (it_frz sq r)⟩
    | v =>
      cases v with
      | str z => exact .inr (.inr ⟨z, rfl, o _ _ h1 H1 _ q1 g1 it_str⟩)
      | ref a =>
        revert q1
        show (match rdL h1 a with
          | some xs => R xs (fun h' => rdL h' a = some xs) h1
          | none => False) → _
        intro q1
        split at q1
        · rename_i xs e
          obtain ⟨vs, sq, r⟩ := rdL_ok g1.rh e
          exact .inl ⟨a, rfl, ⟨vs, sq⟩, o _ _ h1 H1 _ q1 g1 it_lst⟩
        · exact q1.elim
      | _ => exact q1.elim⟩
def rangeD (lo : Int) (n : Nat) : List D := (List.range n).map fun (i : Nat) => .v (.int (lo + (i : Int)))
theorem it_range {G : Gv} {H : Hp} {lo : Int} {n : Nat} : ItOk G (Itr lo n) (rangeD lo n) (fun _ => True) H where
  go := fun i H' h st rh _ hi => by
    show i < n
    simpa [rangeD] using hi
  stop := fun i H' h st rh _ hi => by
    show n ≤ i
    simpa [rangeD] using hi
  yld := fun i H' h x H2 st rh _ hi y => by
    obtain ⟨rfl, rfl⟩ := y
    have hi' : i < n := by simpa [rangeD] using hi
    exact ⟨.v (.int (lo + i)), by simp [rangeD, hi'], .v _, Go.refl rh⟩
def iRng1D (ta : AD) : ID := fun σ h R => ta σ h fun ds h1 => match ds with
  | [.v (.int j)] => (-4611686018427387904 ≤ j ∧ j < 4611686018427387904) ∧ R (rangeD 0 j.toNat) (fun _ => True) h1
  | _ => False
def iRng2D (ta : AD) : ID := fun σ h R => ta σ h fun ds h1 => match ds with
  | [.v (.int i), .v (.int j)] => (-4611686018427387904 ≤ i ∧ i < 4611686018427387904 ∧ -4611686018427387904 ≤ j ∧ j < 4611686018427387904) ∧ R (rangeD i (j - i).toNat) (fun _ => True) h1
  | _ => False
theorem di_range1 {a : Expr} {ta : AD} {p pos : Pos} (hm : X.mg "range" = none) (ha : DA X B [a] ta) (hg : Gl X "range" := by rfl) (hs : starEach [a] X.env = [(false, eval a X.env)] := by rfl) : DI X B tg (.Call (.Name "range" p) [a] [] pos) (iRng1D ta) :=
  PI.imp (pi_range1 hg hm ha hs) fun σV H RV ⟨σ, h, R, r0, q, o⟩ => ⟨σ, h, _, r0, q, fun ds h1 vs H1 q1 g1 rp _ => by
    split at q1
    · cases rp with
      | cons r1 r2 =>
        cases r1
        cases r2
        exact ⟨_, rfl, q1.1.1, q1.1.2, o _ _ h1 H1 _ q1.2 g1 it_range⟩
    · exact q1.elim⟩
theorem di_range2 {a b : Expr} {ta : AD} {p pos : Pos} (hm : X.mg "range" = none) (ha : DA X B [a, b] ta) (hg : Gl X "range" := by rfl) (hs : starEach [a, b] X.env = [(false, eval a X.env), (false, eval b X.env)] := by rfl) (hs2 : starEach [b] X.env = [(false, eval b X.env)] := by rfl) :
    DI X B tg (.Call (.Name "range" p) [a, b] [] pos) (iRng2D ta) :=
  PI.imp (pi_range2 hg hm ha hs hs2) fun σV H RV ⟨σ, h, R, r0, q, o⟩ => ⟨σ, h, _, r0, q, fun ds h1 vs H1 q1 g1 rp _ => by
    split at q1
    · cases rp with
      | cons r1 r2 =>
        cases r2 with
        | cons r2 r3 =>
          cases r1
          cases r2
          cases r3
          exact ⟨_, _, rfl, q1.1, o _ _ h1 H1 _ q1.2 g1 it_range⟩
    · exact q1.elim⟩
end
end DL
/-! DLd: operators over data -/
namespace DL
open PySem L2
theorem dop_of {X : Cx} {f : Value → Value → Sem Value} {r : R2} {rd : R2d} (ho : OpR X f r) (w : ∀ x y H Q, l2 X.gv rd x y H Q → r x y H Q) : DOp X f rd := fun pins s σ H x y v u Q I rx ry h => ho pins s σ H x y v u Q I rx ry (w x y H Q h)
/-- what * asks -/
def mulOk (i j : Int) : Prop := CMul i j ∨ CMulW i j
def divOk (j : Int) : Prop := 0 < j ∧ j.natAbs.log2 < 9000
def powOk (i j : Int) : Prop := CPow i j
def pAdd : R2d := fun x y h Q => match x, y with
  | .v (.int i), .v (.int j) => Q (.v (.int (i + j))) h
  | .v (.str a), .v (.str b) => a.length + b.length ≤ sizeLine ∧ Q (.v (.str (a ++ b))) h
  | .t a, .t b => a.length + b.length ≤ sizeLine ∧ Q (.t (a ++ b)) h
  | .v (.ref a), .v (.ref b) => match h a, h b with
    | some (.lst xs), some (.lst ys) => xs.length + ys.length ≤ sizeLine ∧ al h (fun p => Q (.v (.ref p)) (put h p (.lst (xs ++ ys)))) .mk
    | _, _ => False
  | _, _ => False
def pSub : R2d := fun x y h Q => match x, y with
  | .v (.int i), .v (.int j) => Q (.v (.int (i - j))) h
  | _, _ => False
def pMul : R2d := fun x y h Q => match x, y with
  | .v (.int i), .v (.int j) => mulOk i j ∧ Q (.v (.int (i * j))) h
  | _, _ => False
def pFdv : R2d := fun x y h Q => match x, y with
  | .v (.int i), .v (.int j) => divOk j ∧ Q (.v (.int (i / j))) h
  | _, _ => False
def pMod : R2d := fun x y h Q => match x, y with
  | .v (.int i), .v (.int j) => 0 < j ∧ Q (.v (.int (i % j))) h
  | _, _ => False
def pPow : R2d := fun x y h Q => match x, y with
  | .v (.int i), .v (.int j) => powOk i j ∧ Q (.v (.int (i ^ j.toNat))) h
  | _, _ => False
section
variable {X : Cx}
theorem op_mulG : OpR X (binaryOp .Mult) (rI mulOk fun i j => .int (i * j)) := opI fun _ _ _ _ _ _ _ hc q => PyProof.Rows.mul_int q (hc.elim CMul.ok CMulW.ok)
theorem do_add : DOp X (binaryOp .Add) pAdd := dop_of (OpR.or op_add (OpR.or op_add_str (OpR.or op_catA op_cat))) fun x y H Q ⟨dx, dy, h, Qd, rx, ry, rh, q, o⟩ => by
  unfold pAdd at q
  split at q
  · cases rx; cases ry
    exact .inl ⟨_, _, rfl, rfl, o _ h _ H q (Go.refl rh) (.v _)⟩
  · cases rx; cases ry
    exact .inr (.inl ⟨_, _, rfl, rfl, q.1, o _ h _ H q.2 (Go.refl rh) (.v _)⟩)
  · rename_i ds es
    cases rx with
    | t sa ra =>
      cases ry with
      | t sb rb =>
        have rab := ra.append rb
        refine .inr (.inr (.inl ⟨_, _, _, _, rfl, rfl, sa, sb, by rw [← ra.length, ← rb.length]; exact q.1, fun e => ?_, fun n e => ?_, fun n n' p hp => ?_⟩))
        · subst e
          cases ra
          exact o _ h _ H q.2 (Go.refl rh) (.t sb rb)
        · subst e
          cases rb
          refine o _ h _ H q.2 (Go.refl rh) ?_
          rw [List.append_nil]
          exact .t sa ra
        · exact o _ h _ _ q.2 (Go.hid rh hp) (.t (SqT.of upd_same) (rab.stb (Stb.new hp)))
  · split at q
    · rename_i a b _ _ xs ys ea eb
      cases rx; cases ry
      obtain ⟨vs, hv, rv⟩ := lst_ok rh ea
      obtain ⟨ws, hw, rw'⟩ := lst_ok rh eb
      exact .inr (.inr (.inr ⟨a, b, vs, ws, rfl, rfl, hv, hw, by rw [← rv.length, ← rw'.length]; exact q.1, fun p hp => o _ _ _ _ (q.2 p (rh.free hp)) (Go.new rh hp ⟨_, rfl, (rv.append rw').stb (Stb.new hp)⟩) (.v _)⟩))
    · exact q.elim
  · exact q.elim
theorem do_sub : DOp X (binaryOp .Sub) pSub := dop_of op_sub fun x y H Q ⟨dx, dy, h, Qd, rx, ry, rh, q, o⟩ => by
  unfold pSub at q
  split at q
  · cases rx; cases ry
    exact ⟨_, _, rfl, rfl, o _ h _ H q (Go.refl rh) (.v _)⟩
  · exact q.elim
theorem do_mul : DOp X (binaryOp .Mult) pMul := dop_of op_mulG fun x y H Q ⟨dx, dy, h, Qd, rx, ry, rh, q, o⟩ => by
  unfold pMul at q
  split at q
  · cases rx; cases ry
    exact ⟨_, _, rfl, rfl, q.1, o _ h _ H q.2 (Go.refl rh) (.v _)⟩
  · exact q.elim
theorem do_fdv : DOp X (binaryOp .FloorDiv) pFdv := dop_of op_fdivW fun x y H Q ⟨dx, dy, h, Qd, rx, ry, rh, q, o⟩ => by
  unfold pFdv at q
  split at q
  · cases rx; cases ry
    exact ⟨_, _, rfl, rfl, q.1, o _ h _ H q.2 (Go.refl rh) (.v _)⟩
  · exact q.elim
theorem do_mod : DOp X (binaryOp .Mod) pMod := dop_of op_mod fun x y H Q ⟨dx, dy, h, Qd, rx, ry, rh, q, o⟩ => by
  unfold pMod at q
  split at q
  · cases rx; cases ry
    exact ⟨_, _, rfl, rfl, q.1, o _ h _ H q.2 (Go.refl rh) (.v _)⟩
  · exact q.elim
theorem do_pow : DOp X (binaryOp .Pow) pPow := dop_of op_pow fun x y H Q ⟨dx, dy, h, Qd, rx, ry, rh, q, o⟩ => by
  unfold pPow at q
  split at q
  · cases rx; cases ry
    exact ⟨_, _, rfl, rfl, q.1, o _ h _ H q.2 (Go.refl rh) (.v _)⟩
  · exact q.elim
end
/-! ### order -/
def strLt (a b : Str) : Bool := decide (a.cps.toList < b.cps.toList)
def pLt : R2d := fun x y h Q => match x, y with
  | .v (.int i), .v (.int j) => Q (.v (.bl (decide (i < j)))) h
  | .v (.str a), .v (.str b) => Q (.v (.bl (strLt a b))) h
  | _, _ => False
def pLe : R2d := fun x y h Q => match x, y with
  | .v (.int i), .v (.int j) => Q (.v (.bl (decide (i ≤ j)))) h
  | .v (.str a), .v (.str b) => Q (.v (.bl (!strLt b a))) h
  | _, _ => False
def pGt : R2d := fun x y h Q => match x, y with
  | .v (.int i), .v (.int j) => Q (.v (.bl (decide (j < i)))) h
  | .v (.str a), .v (.str b) => Q (.v (.bl (strLt b a))) h
  | _, _ => False
def pGe : R2d := fun x y h Q => match x, y with
  | .v (.int i), .v (.int j) => Q (.v (.bl (decide (j ≤ i)))) h
  | .v (.str a), .v (.str b) => Q (.v (.bl (!strLt a b))) h
  | _, _ => False
section
variable {X : Cx}
theorem do_lt : DOp X (compareOp .Lt) pLt := dop_of (OpR.or op_lt op_lt_str) fun x y H Q ⟨dx, dy, h, Qd, rx, ry, rh, q, o⟩ => by
  unfold pLt at q
  split at q
  · cases rx; cases ry
    exact .inl ⟨_, _, rfl, rfl, o _ h _ H q (Go.refl rh) (.v _)⟩
  · cases rx; cases ry
    exact .inr ⟨_, _, rfl, rfl, o _ h _ H q (Go.refl rh) (.v _)⟩
  · exact q.elim
theorem do_le : DOp X (compareOp .LtE) pLe := dop_of (OpR.or op_le op_le_str) fun x y H Q ⟨dx, dy, h, Qd, rx, ry, rh, q, o⟩ => by
  unfold pLe at q
  split at q
  · cases rx; cases ry
    exact .inl ⟨_, _, rfl, rfl, o _ h _ H q (Go.refl rh) (.v _)⟩
  · cases rx; cases ry
    exact .inr ⟨_, _, rfl, rfl, o _ h _ H q (Go.refl rh) (.v _)⟩
  · exact q.elim
theorem do_gt : DOp X (compareOp .Gt) pGt := dop_of (OpR.or op_gt op_gt_str) fun x y H Q ⟨dx, dy, h, Qd, rx, ry, rh, q, o⟩ => by
  unfold pGt at q
  split at q
  · cases rx; cases ry
    exact .inl ⟨_, _, rfl, rfl, o _ h _ H q (Go.refl rh) (.v _)⟩
  · cases rx; cases ry
    exact .inr ⟨_, _, rfl, rfl, o _ h _ H q (Go.refl rh) (.v _)⟩
  · exact q.elim
theorem do_ge : DOp X (compareOp .GtE) pGe := dop_of (OpR.or op_ge op_ge_str) fun x y H Q ⟨dx, dy, h, Qd, rx, ry, rh, q, o⟩ => by
  unfold pGe at q
  split at q
  · cases rx; cases ry
    exact .inl ⟨_, _, rfl, rfl, o _ h _ H q (Go.refl rh) (.v _)⟩
  · cases rx; cases ry
    exact .inr ⟨_, _, rfl, rfl, o _ h _ H q (Go.refl rh) (.v _)⟩
  · exact q.elim
end
/-! ### equality, of any depth -/
mutual
/-- == of data -/
def eqD : D → D → Bool
  | .v x, .v y => eqV x y
  | .t xs, .t ys => eqDs xs ys
  | _, _ => false
def eqDs : List D → List D → Bool
  | [], [] => true
  | x :: xs, y :: ys => eqD x y && eqDs xs ys
  | _, _ => false
end
mutual
/-- None, bools, ints, texts, tuples of such, of a depth below n -/
def plD : Nat → D → Bool
  | _, .v x => flatV x
  | _, .k _ => false
  | 0, .t _ => false
  | n + 1, .t xs => plDs n xs
def plDs : Nat → List D → Bool
  | _, [] => true
  | n, x :: xs => plD n x && plDs n xs
end
theorem plDs_at : ∀ {n : Nat} {xs : List D} {d : D}, plDs n xs = true → d ∈ xs → plD n d = true
  | _, x :: xs, d, h, m => by
    unfold plDs at h
    rw [Bool.and_eq_true] at h
    rcases List.mem_cons.mp m with rfl | m
    · exact h.1
    · exact plDs_at h.2 m
theorem eqDs_at : ∀ (xs ys : List D), eqDs xs ys = ((List.range (min xs.length ys.length)).all (fun j => match xs[j]?, ys[j]? with | some a, some b => eqD a b | _, _ => false) && xs.length == ys.length)
  | [], [] => by simp [eqDs]
  | [], _ :: _ => by simp [eqDs]
  | _ :: _, [] => by simp [eqDs]
  | x :: xs, y :: ys => by
    rw [eqDs, eqDs_at xs ys]
    rw [List.length_cons, List.length_cons, Nat.succ_min_succ, List.range_succ_eq_map, List.all_cons, List.all_map]
    simp only [List.getElem?_cons_zero, Function.comp_def, List.getElem?_cons_succ, Bool.and_assoc]
    congr 1
    congr 1
    rw [Bool.eq_iff_iff]
    simp
section
variable {X : Cx} {pins : List (Addr × Obj)} {σ : St} {H : Hp} {s : Shared}
theorem eqV_refl {x : V} (f : flatV x = true) : eqV x x = true := by cases x <;> simp [flatV, eqV] at *
mutual
theorem eq_sameD (I : Inv X pins σ H s) : ∀ (n : Nat) (x y : D) (xv : V), plD n x = true → plD n y = true → Rp X.K H x xv → Rp X.K H y xv → eqD x y = true
  | _, .v x, .v _, _, px, _, .v _, .v _ => by
    unfold plD at px
    unfold eqD
    exact eqV_refl px
  | _, .v x, .t ys, _, px, _, r, r' => by
    cases r
    cases r'
    simp [plD, flatV] at px
  | _, .t xs, .v y, _, _, py, r, r' => by
    cases r'
    cases r
    simp [plD, flatV] at py
  | _, .k xs, _, _, px, _, _, _ => by simp [plD] at px
  | _, .v _, .k ys, _, _, py, _, _ => by simp [plD] at py
  | _, .t _, .k ys, _, _, py, _, _ => by simp [plD] at py
  | 0, .t xs, .t ys, _, px, _, _, _ => by simp [plD] at px
  | n + 1, .t xs, .t ys, _, px, py, .t sa ra, .t sb rb => by
    have e := I.tuple_inj sa sb
    subst e
    unfold plD at px py
    unfold eqD
    exact eq_sameDs I n xs ys _ px py ra rb
theorem eq_sameDs (I : Inv X pins σ H s) : ∀ (n : Nat) (xs ys : List D) (vs : List V), plDs n xs = true → plDs n ys = true → Rps X.K H xs vs → Rps X.K H ys vs → eqDs xs ys = true
  | _, [], [], _, _, _, .nil, .nil => by unfold eqDs; rfl
  | n, x :: xs, y :: ys, _, px, py, .cons r rs, .cons t ts => by
    unfold plDs at px py
    rw [Bool.and_eq_true] at px py
    unfold eqDs
    rw [eq_sameD I n x y _ px.1 py.1 r t, eq_sameDs I n xs ys _ px.2 py.2 rs ts]
    rfl
  | _, [], _ :: _, _, _, _, r, r' => by
    cases r
    cases r'
  | _, _ :: _, [], _, _, _, r, r' => by
    cases r'
    cases r
end
theorem plD_v {n : Nat} {x : V} : plD n (.v x) = flatV x := by cases n <;> simp [plD]
theorem eqAt_D (I : Inv X pins σ H s) : ∀ (n : Nat) (A : Around) (x y : D) (xv yv : V) (u v : Value), A.units + n < cLine → plD n x = true → plD n y = true → Rp X.K H x xv → Rp X.K H y yv → RelV xv u → RelV yv v → SeqAt.EqAt A s u v (eqD x y) := by
  intro n
  induction n with
  | zero =>
    intro A x y xv yv u v hu px py rx ry ru rv
    cases rx with
    | t => simp [plD] at px
    | k => simp [plD] at px
    | v =>
      cases ry with
      | t => simp [plD] at py
      | k => simp [plD] at py
      | v =>
        rw [plD_v] at px py
        unfold eqD
        exact eqAt_V ru rv px py
  | succ n ih =>
    intro A x y xv yv u v hu px py rx ry ru rv
    have ha : A.units < cLine := by omega
    cases rx with
    | k => simp [plD] at px
    | v =>
      rw [plD_v] at px
      cases ry with
      | k => simp [plD] at py
      | v =>
        rw [plD_v] at py
        unfold eqD
        exact eqAt_V ru rv px py
      | t sq r =>
        cases rv
        obtain ⟨its, _, pl, _⟩ := I.tuple sq
        unfold eqD
        cases xv with
        | non => cases ru; exact SeqAt.EqAt.none_tuple pl ha
        | bl b => cases ru; exact SeqAt.EqAt.bool_tuple b pl ha
        | int i => obtain ⟨t, rfl⟩ := ru; exact SeqAt.EqAt.int_tuple i t pl ha
        | str z => obtain ⟨t, rfl⟩ := ru; exact SeqAt.EqAt.str_tuple z t pl ha
        | _ => cases px
    | @t xs a vs sa ra =>
      cases ru
      obtain ⟨ia, va, pa, _⟩ := I.tuple sa
      cases ry with
      | k => simp [plD] at py
      | v =>
        rw [plD_v] at py
        unfold eqD
        cases yv with
        | non => cases rv; exact SeqAt.EqAt.tuple_none pa ha
        | bl b => cases rv; exact SeqAt.EqAt.tuple_bool b pa ha
        | int i => obtain ⟨t, rfl⟩ := rv; exact SeqAt.EqAt.tuple_int i t pa ha
        | str z => obtain ⟨t, rfl⟩ := rv; exact SeqAt.EqAt.tuple_str z t pa ha
        | _ => cases py
      | @t ys b ws sb rb =>
        cases rv
        obtain ⟨ib, vb, pb, _⟩ := I.tuple sb
        have la : ia.length = xs.length := by rw [← va.length, ra.length]
        have lb : ib.length = ys.length := by rw [← vb.length, rb.length]
        unfold plD at px py
        by_cases hab : a = b
        · subst hab
          have e := I.tuple_inj sa sb
          subst e
          unfold eqD
          rw [eq_sameDs I n xs ys _ px py ra rb]
          exact SeqAt.EqAt.same _
        · have k := SeqAt.RcAt.tuples (A := A) (e := fun j => match xs[j]?, ys[j]? with | some a, some b => eqD a b | _, _ => false) pa pb ha (fun j h1 h2 => ?_)
          · refine SeqAt.EqAt.of_refs hab ?_
            unfold eqD
            rw [eqDs_at]
            rw [List.size_toArray, List.size_toArray, la, lb] at k
            exact k
          · have h1' : j < xs.length := by rw [← la]; simpa using h1
            have h2' : j < ys.length := by rw [← lb]; simpa using h2
            obtain ⟨xv, ex, rx⟩ := ra.get (List.getElem?_eq_getElem h1')
            obtain ⟨yv, ey, ry⟩ := rb.get (List.getElem?_eq_getElem h2')
            obtain ⟨ux, eux, rux⟩ := va.get ex
            obtain ⟨uy, euy, ruy⟩ := vb.get ey
            have e1 : ia.toArray[j] = ux := by
              have := List.getElem?_eq_some_iff.mp eux
              simpa using this.2
            have e2 : ib.toArray[j] = uy := by
              have := List.getElem?_eq_some_iff.mp euy
              simpa using this.2
            rw [List.getElem?_eq_getElem h1', List.getElem?_eq_getElem h2', e1, e2]
            exact ih A.in1 _ _ xv yv ux uy (by show A.units + 1 + n < cLine; omega) (plDs_at px (List.getElem_mem h1')) (plDs_at py (List.getElem_mem h2')) rx ry rux ruy
/-- the items of two tuples -/
theorem eqItems (I : Inv X pins σ H s) {n : Nat} {A : Around} {xs ys : List D} {vs ws : List V} {ia ib : List Value} (hu : A.units + 1 + n < cLine) (px : plDs n xs = true) (py : plDs n ys = true) (ra : Rps X.K H xs vs) (rb : Rps X.K H ys ws) (va : Vals vs ia) (vb : Vals ws ib) :
    ∀ (j : Nat) (h1 : j < ia.toArray.size) (h2 : j < ib.toArray.size), SeqAt.EqAt A.in1 s ia.toArray[j] ib.toArray[j] (match xs[j]?, ys[j]? with | some a, some b => eqD a b | _, _ => false) := fun j h1 h2 => by
  have la : ia.length = xs.length := by rw [← va.length, ra.length]
  have lb : ib.length = ys.length := by rw [← vb.length, rb.length]
  have h1' : j < xs.length := by rw [← la]; simpa using h1
  have h2' : j < ys.length := by rw [← lb]; simpa using h2
  obtain ⟨xv, ex, rx⟩ := ra.get (List.getElem?_eq_getElem h1')
  obtain ⟨yv, ey, ry⟩ := rb.get (List.getElem?_eq_getElem h2')
  obtain ⟨ux, eux, rux⟩ := va.get ex
  obtain ⟨uy, euy, ruy⟩ := vb.get ey
  have e1 : ia.toArray[j] = ux := by
    have := List.getElem?_eq_some_iff.mp eux
    simpa using this.2
  have e2 : ib.toArray[j] = uy := by
    have := List.getElem?_eq_some_iff.mp euy
    simpa using this.2
  rw [List.getElem?_eq_getElem h1', List.getElem?_eq_getElem h2', e1, e2]
  exact eqAt_D I n A.in1 _ _ xv yv ux uy (by show A.units + 1 + n < cLine; omega) (plDs_at px (List.getElem_mem h1')) (plDs_at py (List.getElem_mem h2')) rx ry rux ruy
theorem rcAt_V {A : Around} {y x : V} {u v : Value} (ry : RelV y u) (rx : RelV x v) (fy : flatV y = true) (fx : flatV x = true) : SeqAt.RcAt A s u v (eqV y x) ∧ SeqAt.RcNeAt A s u v (!eqV y x) := by
  cases y with
  | non =>
    cases ry
    cases x with
    | non => cases rx; exact ⟨SeqAt.RcAt.none_none, SeqAt.RcNeAt.none_none⟩
    | bl b => cases rx; exact ⟨SeqAt.RcAt.none_bool b, SeqAt.RcNeAt.none_bool b⟩
    | int b => obtain ⟨t, rfl⟩ := rx; exact ⟨SeqAt.RcAt.none_int b t, SeqAt.RcNeAt.none_int b t⟩
    | str b => obtain ⟨t, rfl⟩ := rx; exact ⟨SeqAt.RcAt.none_str b t, SeqAt.RcNeAt.none_str b t⟩
    | _ => exact absurd (show false = true from fx) Bool.false_ne_true
  | bl a =>
    cases ry
    cases x with
    | non => cases rx; exact ⟨SeqAt.RcAt.bool_none a, SeqAt.RcNeAt.bool_none a⟩
    | bl b => cases rx; exact ⟨SeqAt.RcAt.bool_bool a b, SeqAt.RcNeAt.bool_bool a b⟩
    | int b => obtain ⟨t, rfl⟩ := rx; exact ⟨SeqAt.RcAt.bool_int a b t, SeqAt.RcNeAt.bool_int a b t⟩
    | str b => obtain ⟨t, rfl⟩ := rx; exact ⟨SeqAt.RcAt.bool_str a b t, SeqAt.RcNeAt.bool_str a b t⟩
    | _ => exact absurd (show false = true from fx) Bool.false_ne_true
  | int a =>
    obtain ⟨t', rfl⟩ := ry
    cases x with
    | non => cases rx; exact ⟨SeqAt.RcAt.int_none a t', SeqAt.RcNeAt.int_none a t'⟩
    | bl b => cases rx; exact ⟨SeqAt.RcAt.int_bool a t' b, SeqAt.RcNeAt.int_bool a t' b⟩
    | int b => obtain ⟨t, rfl⟩ := rx; exact ⟨SeqAt.RcAt.int_int a t' b t, SeqAt.RcNeAt.int_int a t' b t⟩
    | str b => obtain ⟨t, rfl⟩ := rx; exact ⟨SeqAt.RcAt.int_str a t' b t, SeqAt.RcNeAt.int_str a t' b t⟩
    | _ => exact absurd (show false = true from fx) Bool.false_ne_true
  | str a =>
    obtain ⟨t', rfl⟩ := ry
    cases x with
    | non => cases rx; exact ⟨SeqAt.RcAt.str_none a t', SeqAt.RcNeAt.str_none a t'⟩
    | bl b => cases rx; exact ⟨SeqAt.RcAt.str_bool a t' b, SeqAt.RcNeAt.str_bool a t' b⟩
    | int b => obtain ⟨t, rfl⟩ := rx; exact ⟨SeqAt.RcAt.str_int a t' b t, SeqAt.RcNeAt.str_int a t' b t⟩
    | str b => obtain ⟨t, rfl⟩ := rx; exact ⟨SeqAt.RcAt.str_str a t' b t, SeqAt.RcNeAt.str_str a t' b t⟩
    | _ => exact absurd (show false = true from fx) Bool.false_ne_true
  | _ => exact absurd (show false = true from fy) Bool.false_ne_true
theorem rcAt_D (I : Inv X pins σ H s) (n : Nat) (A : Around) (x y : D) (xv yv : V) (u v : Value) (hu : A.units + n < cLine) (px : plD n x = true) (py : plD n y = true) (rx : Rp X.K H x xv) (ry : Rp X.K H y yv) (ru : RelV xv u) (rv : RelV yv v) :
    SeqAt.RcAt A s u v (eqD x y) ∧ SeqAt.RcNeAt A s u v (!eqD x y) := by
  have ha : A.units < cLine := by omega
  cases rx with
  | k => simp [plD] at px
  | v =>
    rw [plD_v] at px
    cases ry with
    | k => simp [plD] at py
    | v =>
      rw [plD_v] at py
      unfold eqD
      exact rcAt_V ru rv px py
    | t sq r =>
      cases rv
      obtain ⟨its, _, pl, _⟩ := I.tuple sq
      unfold eqD
      cases xv with
      | non => cases ru; exact ⟨SeqAt.RcAt.none_tuple pl ha, SeqAt.RcNeAt.none_tuple pl ha⟩
      | bl b => cases ru; exact ⟨SeqAt.RcAt.bool_tuple b pl ha, SeqAt.RcNeAt.bool_tuple b pl ha⟩
      | int i => obtain ⟨t, rfl⟩ := ru; exact ⟨SeqAt.RcAt.int_tuple i t pl ha, SeqAt.RcNeAt.int_tuple i t pl ha⟩
      | str z => obtain ⟨t, rfl⟩ := ru; exact ⟨SeqAt.RcAt.str_tuple z t pl ha, SeqAt.RcNeAt.str_tuple z t pl ha⟩
      | _ => cases px
  | @t xs a vs sa ra =>
    cases ru
    obtain ⟨ia, va, pa, _⟩ := I.tuple sa
    cases ry with
    | k => simp [plD] at py
    | v =>
      rw [plD_v] at py
      unfold eqD
      cases yv with
      | non => cases rv; exact ⟨SeqAt.RcAt.tuple_none pa ha, SeqAt.RcNeAt.tuple_none pa ha⟩
      | bl b => cases rv; exact ⟨SeqAt.RcAt.tuple_bool b pa ha, SeqAt.RcNeAt.tuple_bool b pa ha⟩
      | int i => obtain ⟨t, rfl⟩ := rv; exact ⟨SeqAt.RcAt.tuple_int i t pa ha, SeqAt.RcNeAt.tuple_int i t pa ha⟩
      | str z => obtain ⟨t, rfl⟩ := rv; exact ⟨SeqAt.RcAt.tuple_str z t pa ha, SeqAt.RcNeAt.tuple_str z t pa ha⟩
      | _ => cases py
    | @t ys b ws sb rb =>
      cases rv
      obtain ⟨ib, vb, pb, _⟩ := I.tuple sb
      have la : ia.length = xs.length := by rw [← va.length, ra.length]
      have lb : ib.length = ys.length := by rw [← vb.length, rb.length]
      cases n with
      | zero => simp [plD] at px
      | succ n =>
        unfold plD at px py
        have k := eqItems (A := A) I (by omega) px py ra rb va vb
        have k1 := SeqAt.RcAt.tuples pa pb ha k
        have k2 := SeqAt.RcNeAt.tuples pa pb ha k
        rw [List.size_toArray, List.size_toArray, la, lb] at k1 k2
        unfold eqD
        rw [eqDs_at]
        exact ⟨k1, k2⟩
/-- what == and != ask -/
def pEq : R2d := fun x y h Q => match x, y with
  | .v (.int i), .v (.int j) => Q (.v (.bl (decide (i = j)))) h
  | .v (.str i), .v (.str j) => Q (.v (.bl (decide (i = j)))) h
  | x, y => (plD 50 x && plD 50 y) = true ∧ Q (.v (.bl (eqD x y))) h
def pNe : R2d := fun x y h Q => match x, y with
  | .v (.int i), .v (.int j) => Q (.v (.bl (!decide (i = j)))) h
  | .v (.str i), .v (.str j) => Q (.v (.bl (!decide (i = j)))) h
  | x, y => (plD 50 x && plD 50 y) = true ∧ Q (.v (.bl (!eqD x y))) h
theorem eqV_int {i j : Int} : eqV (.int i) (.int j) = decide (i = j) := by unfold eqV; exact Bool.beq_eq_decide_eq i j
theorem eqV_str {i j : Str} : eqV (.str i) (.str j) = decide (i = j) := by unfold eqV; rw [Bool.eq_iff_iff]; simp
theorem do_eq (hu : X.A.units + 50 < cLine) : DOp X (compareOp .Eq) pEq := fun pins s σ H x y v u Q I rv ru ⟨dx, dy, h, Qd, rx, ry, rh, q, o⟩ => by
  have q' : (plD 50 dx && plD 50 dy) = true ∧ Qd (.v (.bl (eqD dx dy))) h := by
    unfold pEq at q
    split at q
    · exact ⟨rfl, by unfold eqD; rw [eqV_int]; exact q⟩
    · exact ⟨rfl, by unfold eqD; rw [eqV_str]; exact q⟩
    · exact q
  obtain ⟨p, q⟩ := q'
  rw [Bool.and_eq_true] at p
  exact (rcAt_D I 50 X.A dx dy x y v u hu p.1 p.2 rx ry rv ru).1 _ _ _ _ ⟨.bl _, H, I, rfl, o _ h _ H q (Go.refl rh) (.v _)⟩
theorem do_ne (hu : X.A.units + 50 < cLine) : DOp X (compareOp .NotEq) pNe := fun pins s σ H x y v u Q I rv ru ⟨dx, dy, h, Qd, rx, ry, rh, q, o⟩ => by
  have q' : (plD 50 dx && plD 50 dy) = true ∧ Qd (.v (.bl (!eqD dx dy))) h := by
    unfold pNe at q
    split at q
    · exact ⟨rfl, by unfold eqD; rw [eqV_int]; exact q⟩
    · exact ⟨rfl, by unfold eqD; rw [eqV_str]; exact q⟩
    · exact q
  obtain ⟨p, q⟩ := q'
  rw [Bool.and_eq_true] at p
  exact (rcAt_D I 50 X.A dx dy x y v u hu p.1 p.2 rx ry rv ru).2 _ _ _ _ ⟨.bl _, H, I, rfl, o _ h _ H q (Go.refl rh) (.v _)⟩
end
end DL
/-! DLe: subscripts, slices, membership, built-ins, methods over data -/
namespace DL
open PySem L2
/-! ### subscripts -/
def pIx : R2d := fun x y h Q => match x, y with
  | .t ds, .v (.int i) => match atI ds i with
    | some d => Q d h
    | none => False
  | .k ds, .v (.int i) => match atI ds i with
    | some d => Q d h
    | none => False
  | .v (.str z), .v (.int i) => z.length ≤ sizeLine ∧ (match atI z.cps.toList i with
    | some c => Q (.v (.str ⟨#[c]⟩)) h
    | none => False)
  | .v (.ref a), .v (.int i) => match rdL h a with
    | some xs => (match atI xs i with
      | some d => Q d h
      | none => False)
    | none => False
  | _, _ => False
theorem atI_rp {K : PySem.W.Frag} {H : Hp} {ds : List D} {vs : List V} {i : Int} {d : D} (r : Rps K H ds vs) (e : atI ds i = some d) : ∃ x, atI vs i = some x ∧ Rp K H d x := by
  unfold atI at e ⊢
  rw [← r.length]
  cases q : ixN ds.length i with
  | none => rw [q] at e; cases e
  | some j =>
    rw [q] at e
    exact r.get e
section
variable {X : Cx} {B : Bs} {a b : Expr} {ta tb : ED} {pos : Pos}
theorem de_ix (ha : DE X B a ta) (hb : DE X B b tb) (hs : PlainIx b := by exact fun _ _ => rfl) : DE X B (.Subscript a b pos) (d2 pIx ta tb) :=
  PE.imp (pe_ix ix_seq ha hb hs) fun σV H QV ⟨σ, h, Q, r0, q, o⟩ => ⟨σ, h, _, r0, q, fun x h1 xv H1 q1 g1 rx => ⟨σ, h1, _, r0.next g1, q1, fun y h2 yv H2 q2 g2 ry => by
    have rx := rx.stb g2.st
    have o := o.on (g1.trans g2)
    unfold pIx at q2
    split at q2
    · split at q2
      · rename_i e
        cases ry
        cases rx with
        | t sq r =>
          obtain ⟨v, ev, rv⟩ := atI_rp r e
          exact .inr (.inl ⟨_, _, _, v, rfl, rfl, sq, ev, o _ h2 v H2 q2 (Go.refl g2.rh) rv⟩)
      · exact q2.elim
    · split at q2
      · rename_i e
        cases ry
        cases rx with
        | k sq r =>
          obtain ⟨v, ev, rv⟩ := atI_rp r e
          exact .inl ⟨_, _, _, v, rfl, rfl, sq.sq, ev, o _ h2 v H2 q2 (Go.refl g2.rh) rv⟩
      · exact q2.elim
    · obtain ⟨hz, q2⟩ := q2
      split at q2
      · rename_i e
        cases rx; cases ry
        exact .inr (.inr ⟨_, _, _, rfl, rfl, hz, e, o _ h2 _ H2 q2 (Go.refl g2.rh) (.v _)⟩)
      · exact q2.elim
    · split at q2
      · rename_i xs e
        split at q2
        · rename_i e2
          cases rx; cases ry
          obtain ⟨vs, sq, r⟩ := rdL_ok g2.rh e
          obtain ⟨v, ev, rv⟩ := atI_rp r e2
          exact .inl ⟨_, _, _, v, rfl, rfl, sq, ev, o _ h2 v H2 q2 (Go.refl g2.rh) rv⟩
        · exact q2.elim
      · exact q2.elim
    · exact q2.elim⟩⟩
/-! ### slices -/
abbrev OD := Sd → Hd → (Option Int → Hd → Prop) → Prop
def lO (G : Gv) (B : Bs) (t : OD) : TO := fun σV H QV => ∃ σ h Q, R0 G B σ h σV H ∧ t σ h Q ∧ ∀ o h' H', Q o h' → Go G H h H' h' → QV o H'
def DO (X : Cx) (B : Bs) (e : Option Expr) (t : OD) : Prop := PO X e (lO X.gv B t)
theorem PO.imp {X : Cx} {e : Option Expr} {t t' : TO} (h : PO X e t) (w : ∀ σ H Q, t' σ H Q → t σ H Q) : PO X e t' := ⟨fun pins s σ H Q I q => h.run pins s σ H Q I (w σ H Q q)⟩
def dNoPart : OD := fun _ h Q => Q none h
def dPart (t : ED) : OD := fun σ h Q => t σ h fun d h1 => match d with
  | .v (.int i) => Q (some i) h1
  | _ => False
theorem do_none : DO X B none dNoPart := PO.imp po_none fun σV H QV ⟨σ, h, Q, r0, q, o⟩ => o none h H q (Go.refl r0.h)
theorem do_some {e : Expr} {te : ED} (he : DE X B e te) : DO X B (some e) (dPart te) := PO.imp (po_some he) fun σV H QV ⟨σ, h, Q, r0, q, o⟩ => ⟨σ, h, _, r0, q, fun d h1 v H1 q1 g1 rp => by
  split at q1
  · cases rp
    exact ⟨_, rfl, o _ h1 H1 q1 g1⟩
  · exact q1.elim⟩
def cutD (xs : List D) (lo hi : Option Int) : List D := (xs.drop (HT.sIx xs.length 0 lo)).take (HT.sIx xs.length xs.length hi - HT.sIx xs.length 0 lo)
theorem cutD_rp {K : PySem.W.Frag} {H : Hp} {ds : List D} {vs : List V} {lo hi : Option Int} (r : Rps K H ds vs) : Rps K H (cutD ds lo hi) (cutV vs lo hi) := by
  unfold cutD cutV
  rw [r.length]
  exact (r.drop _).take _
def pSl (x : D) (lo hi : Option Int) (h : Hd) (Q : KD) : Prop := match x with
  | .t ds => Q (.t (cutD ds lo hi)) h
  | .k ds => al h (fun p => Q (.v (.ref p)) (put h p (.lst (cutD ds lo hi)))) .mk
  | .v (.str z) => z.length ≤ sizeLine ∧ Q (.v (.str (cutS z lo hi))) h
  | .v (.ref a) => match rdL h a with
    | some xs => al h (fun p => Q (.v (.ref p)) (put h p (.lst (cutD xs lo hi)))) .mk
    | none => False
  | _ => False
def dSl (te : ED) (tl th : OD) : ED := fun σ h Q => te σ h fun x h1 => tl σ h1 fun l h2 => th σ h2 fun u h3 => pSl x l u h3 Q
theorem de_sl {e : Expr} {lo hi : Option Expr} {p2 : Pos} {te : ED} {tl th : OD} (he : DE X B e te) (hl : DO X B lo tl) (hu : DO X B hi th) : DE X B (.Subscript e (.Slice lo hi none p2) pos) (dSl te tl th) :=
  PE.imp (pe_slice (sl_list.or (sl_tupA.or sl_str)) he hl hu) fun σV H QV ⟨σ, h, Q, r0, q, o⟩ => ⟨σ, h, _, r0, q, fun x h1 xv H1 q1 g1 rx => ⟨σ, h1, _, r0.next g1, q1, fun l h2 H2 q2 g2 => ⟨σ, h2, _, (r0.next g1).next g2, q2, fun u h3 H3 q3 g3 => by
    have rx := (rx.stb g2.st).stb g3.st
    have o := o.on (g1.trans (g2.trans g3))
    unfold pSl at q3
    split at q3
    · cases rx with
      | t sq r =>
        refine .inr (.inl ⟨_, _, rfl, sq, fun hw => ?_, fun _ p hp => ?_⟩)
        · refine o _ h3 _ H3 q3 (Go.refl g3.rh) (.t sq ?_)
          have c := cutD_rp (lo := l) (hi := u) r
          unfold cutV at c
          rw [hw.1, hw.2, List.drop_zero, Nat.sub_zero, List.take_length] at c
          exact c
        · exact o _ h3 _ _ q3 (Go.hid g3.rh hp) (.t (SqT.of upd_same) ((cutD_rp r).stb (Stb.new hp)))
    · cases rx with
      | k sq r => exact .inl ⟨_, _, rfl, sq.sq, fun p hp => o _ _ _ _ (q3 p (g3.rh.free hp)) (Go.new g3.rh hp ⟨_, rfl, (cutD_rp r).stb (Stb.new hp)⟩) (.v _)⟩
    · cases rx
      exact .inr (.inr ⟨_, rfl, q3.1, o _ h3 _ H3 q3.2 (Go.refl g3.rh) (.v _)⟩)
    · split at q3
      · rename_i xs e
        cases rx
        obtain ⟨vs, sq, r⟩ := rdL_ok g3.rh e
        exact .inl ⟨_, _, rfl, sq, fun p hp => o _ _ _ _ (q3 p (g3.rh.free hp)) (Go.new g3.rh hp ⟨_, rfl, (cutD_rp r).stb (Stb.new hp)⟩) (.v _)⟩
      · exact q3.elim
    · exact q3.elim⟩⟩⟩
/-! ### one-place operators -/
def l1 (G : Gv) (r : D → Hd → KD → Prop) : V → Hp → VK → Prop := fun xV H QV => ∃ x h Q, Rp G.K H x xV ∧ RelH G H h ∧ r x h Q ∧ OutE G H h Q QV
def pNeg : D → Hd → KD → Prop := fun x h Q => match x with
  | .v (.int i) => Q (.v (.int (-i))) h
  | _ => False
def d1 (r : D → Hd → KD → Prop) (ta : ED) : ED := fun σ h Q => ta σ h fun x h1 => r x h1 Q
theorem de_neg (ha : DE X B a ta) : DE X B (.UnaryOp .USub a pos) (d1 pNeg ta) :=
  PE.imp (pe_un un_neg ha) fun σV H QV ⟨σ, h, Q, r0, q, o⟩ => ⟨σ, h, _, r0, q, fun x h1 xv H1 q1 g1 rx => by
    unfold pNeg at q1
    split at q1
    · cases rx
      exact ⟨_, rfl, (o.on g1) _ h1 _ H1 q1 (Go.refl g1.rh) (.v _)⟩
    · exact q1.elim⟩
/-! ### is None -/
def isN : D → Bool
  | .v .non => true
  | _ => false
def pIs : R2d := fun x y h Q => match y with
  | .v .non => Q (.v (.bl (isN x))) h
  | _ => False
def pIsNot : R2d := fun x y h Q => match y with
  | .v .non => Q (.v (.bl (!isN x))) h
  | _ => False
theorem isN_eq {K : PySem.W.Frag} {H : Hp} {d : D} {x : V} (r : Rp K H d x) : isN d = decide (x = .non) := by
  cases r with
  | t => simp [isN]
  | k => simp [isN]
  | v => cases x <;> simp [isN]
theorem do_is : DOp X (compareOp .Is) pIs := dop_of op_isN fun x y H Q ⟨dx, dy, h, Qd, rx, ry, rh, q, o⟩ => by
  unfold pIs at q
  split at q
  · cases ry
    rw [isN_eq rx] at q
    exact ⟨rfl, o _ h _ H q (Go.refl rh) (.v _)⟩
  · exact q.elim
theorem do_isnot : DOp X (compareOp .IsNot) pIsNot := dop_of op_notN fun x y H Q ⟨dx, dy, h, Qd, rx, ry, rh, q, o⟩ => by
  unfold pIsNot at q
  split at q
  · cases ry
    rw [isN_eq rx] at q
    exact ⟨rfl, o _ h _ H q (Go.refl rh) (.v _)⟩
  · exact q.elim
end
/-! ### membership -/
def flatD : D → Bool
  | .v x => flatV x
  | _ => false
def inL (x : D) (xs : List D) : Bool := xs.any fun y => eqD y x
/-- one text in another -/
def strIn (i j : Str) : Bool := !(Builtin.Str.occurrences j i 0 j.length 1).isEmpty
def pInB (neg : Bool) : R2d := fun x y h Q => match y with
  | .t ds => flatD x = true ∧ ds.all flatD = true ∧ Q (.v (.bl (if neg then !inL x ds else inL x ds))) h
  | .v (.ref a) => match rdL h a with
    | some ds => flatD x = true ∧ ds.all flatD = true ∧ Q (.v (.bl (if neg then !inL x ds else inL x ds))) h
    | none => False
  | .v (.str z) => match x with
    | .v (.str i) => Q (.v (.bl (if neg then !strIn i z else strIn i z))) h
    | _ => False
  | _ => False
abbrev pIn : R2d := pInB false
abbrev pNotIn : R2d := pInB true
theorem flatD_v {K : PySem.W.Frag} {H : Hp} {d : D} {x : V} (f : flatD d = true) (r : Rp K H d x) : d = .v x ∧ flatV x = true := by
  cases r with
  | t => cases f
  | k => cases f
  | v => exact ⟨rfl, f⟩
theorem flatD_vs {K : PySem.W.Frag} {H : Hp} : ∀ {ds : List D} {xs : List V}, ds.all flatD = true → Rps K H ds xs → ds = xs.map D.v ∧ xs.all flatV = true
  | _, _, _, .nil => ⟨rfl, rfl⟩
  | _, _, f, .cons r t => by
    rw [List.all_cons, Bool.and_eq_true] at f
    obtain ⟨e, g⟩ := flatD_v f.1 r
    obtain ⟨e', g'⟩ := flatD_vs f.2 t
    rw [e, e', List.map_cons, List.all_cons, g, g']
    exact ⟨rfl, rfl⟩
theorem inL_eq (x : V) (xs : List V) : inL (.v x) (xs.map D.v) = inV x xs := by
  unfold inL inV
  rw [List.any_map]
  congr 1
section
variable {X : Cx}
theorem do_inB_aux {neg : Bool} {x y : V} {H : Hp} {Q : VK} (hh : l2 X.gv (pInB neg) x y H Q) : rIn X.K neg x y H Q ∨ ∃ i j, x = .str i ∧ y = .str j ∧ Q (.bl (if neg then !strIn i j else strIn i j)) H := by
  obtain ⟨dx, dy, h, Qd, rx, ry, rh, q, o⟩ := hh
  have go : ∀ {ds : List D} {vs : List V} {p : Addr}, y = .ref p → (SqL X.K H p vs ∨ SqT X.K H p vs) → Rps X.K H ds vs → (flatD dx = true ∧ ds.all flatD = true ∧ Qd (.v (.bl (if neg then !inL dx ds else inL dx ds))) h) → rIn X.K neg x y H Q := by
    rintro ds vs p ey sq r ⟨f1, f2, q⟩
    obtain ⟨e1, g1⟩ := flatD_v f1 rx
    obtain ⟨e2, g2⟩ := flatD_vs f2 r
    subst e1 e2
    rw [inL_eq] at q
    exact ⟨p, vs, ey, sq, g1, g2, o _ h _ H q (Go.refl rh) (.v _)⟩
  unfold pInB at q
  split at q
  · cases ry with
    | t sq r => exact .inl (go rfl (.inr sq) r q)
  · split at q
    · rename_i ds e
      cases ry
      obtain ⟨vs, sq, r⟩ := rdL_ok rh e
      exact .inl (go rfl (.inl sq) r q)
    · exact q.elim
  · split at q
    · cases rx; cases ry
      exact .inr ⟨_, _, rfl, rfl, o _ h _ H q (Go.refl rh) (.v _)⟩
    · exact q.elim
  · exact q.elim
theorem do_in : DOp X (compareOp .In) pIn := dop_of (OpR.or op_in_seq op_in_str) fun x y H Q hh => by
  rcases do_inB_aux hh with k | ⟨i, j, e1, e2, q⟩
  · exact .inl k
  · exact .inr ⟨i, j, e1, e2, q⟩
theorem do_notin : DOp X (compareOp .NotIn) pNotIn := dop_of (OpR.or op_notIn_seq op_notin_str) fun x y H Q hh => by
  rcases do_inB_aux hh with k | ⟨i, j, e1, e2, q⟩
  · exact .inl k
  · exact .inr ⟨i, j, e1, e2, q⟩
end
/-! ### calls of built-ins -/
abbrev CD := List D → Hd → KD → Prop
def lC (G : Gv) (r : CD) : List V → Hp → VK → Prop := fun xs H QV => ∃ ds h Q, Rps G.K H ds xs ∧ RelH G H h ∧ r ds h Q ∧ OutE G H h Q QV
def DCa (X : Cx) (f : Value) (r : CD) : Prop := CallR X f (lC X.gv r)
def dCB (r : CD) (t : AD) : ED := fun σ h Q => t σ h fun ds h1 => r ds h1 Q
theorem dca_of {X : Cx} {f : Value} {r : List V → Hp → VK → Prop} {rd : CD} (hc : CallR X f r) (w : ∀ xs H Q, lC X.gv rd xs H Q → r xs H Q) : DCa X f rd := fun pins s σ H xs us Q I rx h => hc pins s σ H xs us Q I rx (w xs H Q h)
section
variable {X : Cx} {B : Bs} {x : Str} {p pos : Pos} {e : Expr} {es : List Expr} {t : AD} {r : CD} {id T : String}
theorem de_callB (hc : DCa X (.builtin id) r) (hm : X.mg x = none) (hv : bootBuiltins x = some (.builtin id)) (ha : DA X B (e :: es) t) (hg : Gl X x := by rfl) (hn : x ≠ "__name__" := by decide) (hdb : (x == ("__debug__" : Str)) = false := by decide)
    (he : starEach (e :: es) X.env = (false, eval e X.env) :: starEach es X.env := by rfl) (hpl : (backTo pos (starEach es X.env)).any (·.1) = false := by rfl) : DE X B (.Call (.Name x p) (e :: es) [] pos) (dCB r t) :=
  PE.imp (pe_callB hc hg hm hv ha hn hdb he hpl) fun σV H QV ⟨σ, h, Q, r0, q, o⟩ => ⟨σ, h, _, r0, q, fun ds h1 vs H1 q1 g1 rp _ => ⟨ds, h1, Q, rp, g1.rh, q1, o.on g1⟩⟩
theorem de_callTy (hc : DCa X (.type T) r) (hm : X.mg x = none) (hv : bootBuiltins x = some (.type T)) (ha : DA X B (e :: es) t) (hg : Gl X x := by rfl) (hn : x ≠ "__name__" := by decide) (hdb : (x == ("__debug__" : Str)) = false := by decide)
    (he : starEach (e :: es) X.env = (false, eval e X.env) :: starEach es X.env := by rfl) (hpl : (backTo pos (starEach es X.env)).any (·.1) = false := by rfl) : DE X B (.Call (.Name x p) (e :: es) [] pos) (dCB r t) :=
  PE.imp (pe_callTy hc hg hm hv ha hn hdb he hpl) fun σV H QV ⟨σ, h, Q, r0, q, o⟩ => ⟨σ, h, _, r0, q, fun ds h1 vs H1 q1 g1 rp _ => ⟨ds, h1, Q, rp, g1.rh, q1, o.on g1⟩⟩
/-- a built-in class as a value -/
theorem de_type {n : String} (hm : X.mg x = none) (hv : bootBuiltins x = some (.type n)) (hg : Gl X x := by rfl) (hn : x ≠ "__name__" := by decide) (hdb : (x == ("__debug__" : Str)) = false := by decide) : DE X B (.Name x pos) (dC (.v (.ty n))) :=
  de_c (pe_bltn hg hm hv rfl hn hdb)
end
def cInt : CD := fun ds h Q => match ds with
  | [.v (.int i)] => Q (.v (.int i)) h
  | [.v (.bl k)] => Q (.v (.int (if k then 1 else 0))) h
  | _ => False
def cAbs : CD := fun ds h Q => match ds with
  | [.v (.int i)] => Q (.v (.int (if i < 0 then -i else i))) h
  | _ => False
def cLen : CD := fun ds h Q => match ds with
  | [.t xs] => Q (.v (.int (xs.length : Int))) h
  | [.k xs] => Q (.v (.int (xs.length : Int))) h
  | [.v (.str z)] => z.length ≤ sizeLine ∧ Q (.v (.int (z.length : Int))) h
  | [.v (.ref a)] => match rdL h a with
    | some xs => Q (.v (.int (xs.length : Int))) h
    | none => match h a with
      | some (.dk kvs) => Q (.v (.int (kvs.length : Int))) h
      | _ => False
  | _ => False
def cTuple : CD := fun ds h Q => match ds with
  | [.t xs] => Q (.t xs) h
  | [.v (.ref a)] => match rdL h a with
    | some xs => Q (.t xs) h
    | none => False
  | _ => False
def cList : CD := fun ds h Q => match ds with
  | [.t xs] => al h (fun p => Q (.v (.ref p)) (put h p (.lst xs))) .mk
  | [.v (.str z)] => z.length ≤ sizeLine ∧ al h (fun p => Q (.v (.ref p)) (put h p (.lst (chars z)))) .mk
  | [.v (.ref a)] => match rdL h a with
    | some xs => al h (fun p => Q (.v (.ref p)) (put h p (.lst xs))) .mk
    | none => False
  | _ => False
/-- isinstance of the built-in classes -/
def tyName : D → Hd → Option String
  | .v .non, _ => some "NoneType"
  | .v (.bl _), _ => some "bool"
  | .v (.int _), _ => some "int"
  | .v (.str _), _ => some "str"
  | .t _, _ => some "tuple"
  | .v (.ref a), h => match h a with
    | some (.lst _) => some "list"
    | some (.dk _) => some "dict"
    | some (.dt _) => some "dict"
    | _ => none
  | _, _ => none
def subTy (a b : String) : Bool := a == b || (a == "bool" && b == "int")
def tyKnown (b : String) : Bool := b == "int" || b == "bool" || b == "str" || b == "tuple" || b == "list" || b == "dict"
def cIsi : CD := fun ds h Q => match ds with
  | [x, .v (.ty n)] => match tyName x h with
    | some m => tyKnown n = true ∧ Q (.v (.bl (subTy m n))) h
    | none => False
  | _ => False
section
variable {X : Cx}
theorem ca_int : DCa X (.type "int") cInt := dca_of call_int1 fun xs H Q ⟨ds, h, Qd, rp, rh, q, o⟩ => by
  unfold cInt at q
  split at q
  · cases rp with
    | cons r1 r2 => cases r1; cases r2; exact .inl ⟨_, rfl, o _ h _ H q (Go.refl rh) (.v _)⟩
  · cases rp with
    | cons r1 r2 => cases r1; cases r2; exact .inr ⟨_, rfl, o _ h _ H q (Go.refl rh) (.v _)⟩
  · exact q.elim
theorem ca_abs : DCa X (.builtin "abs") cAbs := dca_of call_abs fun xs H Q ⟨ds, h, Qd, rp, rh, q, o⟩ => by
  unfold cAbs at q
  split at q
  · cases rp with
    | cons r1 r2 => cases r1; cases r2; exact ⟨_, rfl, o _ h _ H q (Go.refl rh) (.v _)⟩
  · exact q.elim
theorem dk_ok {G : Gv} {H : Hp} {h : Hd} {a : Addr} {kvs : List (Key × D)} (r : RelH G H h) (e : h a = some (.dk kvs)) : ∃ vs, H a = some (.dK vs) ∧ RpK G H kvs vs := by
  obtain ⟨u, hu, vs, rfl, rp⟩ := r a _ e
  exact ⟨vs, hu, rp⟩
theorem ca_len : DCa X (.builtin "len") cLen := dca_of (call_len.or call_lenD) fun xs H Q ⟨ds, h, Qd, rp, rh, q, o⟩ => by
  unfold cLen at q
  split at q
  · cases rp with
    | cons r1 r2 =>
      cases r2
      cases r1 with
      | t sq r => exact .inl ⟨_, _, rfl, .inr ⟨_, sq, rfl⟩, by rw [← r.length]; exact o _ h _ H q (Go.refl rh) (.v _)⟩
  · cases rp with
    | cons r1 r2 =>
      cases r2
      cases r1 with
      | k sq r => exact .inl ⟨_, _, rfl, .inl ⟨_, sq.sq, rfl⟩, by rw [← r.length]; exact o _ h _ H q (Go.refl rh) (.v _)⟩
  · cases rp with
    | cons r1 r2 => cases r1; cases r2; exact .inl ⟨_, _, rfl, ⟨q.1, rfl⟩, o _ h _ H q.2 (Go.refl rh) (.v _)⟩
  · split at q
    · rename_i ys e
      cases rp with
      | cons r1 r2 =>
        cases r1; cases r2
        obtain ⟨vs, sq, r⟩ := rdL_ok rh e
        exact .inl ⟨_, _, rfl, .inl ⟨_, sq, rfl⟩, by rw [← r.length]; exact o _ h _ H q (Go.refl rh) (.v _)⟩
    · split at q
      · rename_i kvs e
        cases rp with
        | cons r1 r2 =>
          cases r1; cases r2
          obtain ⟨vs, hv, r⟩ := dk_ok rh e
          exact .inr ⟨_, vs, rfl, hv, by rw [← show kvs.length = vs.length from Paired.length r]; exact o _ h _ H q (Go.refl rh) (.v _)⟩
      · exact q.elim
  · exact q.elim
theorem ca_tuple : DCa X (.type "tuple") cTuple := dca_of call_tuple_of fun xs H Q ⟨ds, h, Qd, rp, rh, q, o⟩ => by
  unfold cTuple at q
  split at q
  · cases rp with
    | cons r1 r2 =>
      cases r2
      cases r1 with
      | t sq r => exact ⟨_, _, rfl, .inr ⟨sq, o _ h _ H q (Go.refl rh) (.t sq r)⟩⟩
  · split at q
    · rename_i ys e
      cases rp with
      | cons r1 r2 =>
        cases r1; cases r2
        obtain ⟨vs, sq, r⟩ := rdL_ok rh e
        exact ⟨_, _, rfl, .inl ⟨sq, fun l hl => o _ h _ _ q (Go.hid rh hl) (.t (SqT.of upd_same) (r.stb (Stb.new hl)))⟩⟩
    · exact q.elim
  · exact q.elim
/-- list(a text) -/
theorem call_listS (hc : X.calm = true) : CallR X (.type "list") (fun xs H Q => ∃ z, xs = [.str z] ∧ z.length ≤ sizeLine ∧ ∀ l, H l = none → Q (.ref l) (upd H l (.lst (z.cps.toList.map fun c => V.str ⟨#[c]⟩)))) := by
  intro pins s σ H xs us Q I rx h
  obtain ⟨z, rfl, hz, q⟩ := h
  obtain ⟨u, rfl, t, rfl⟩ := vals1 rx
  refine call_list_str (I.ok.hd hc) z t (fun h' tk acc' c' hk hS hi => ?_) hz
  have hv : Vals (z.cps.toList.map fun c => V.str ⟨#[c]⟩) acc'.toList := by
    obtain ⟨h1, h2⟩ := hi
    refine vals_of_at (by simp [h1]) fun j x u e1 e2 => ?_
    obtain ⟨c, tk', ec, rfl⟩ := h2 j u (by simpa using e2)
    rw [List.getElem?_map, Array.getElem?_toList, ec] at e1
    cases e1
    exact ⟨_, rfl⟩
  have I2 : Inv X pins σ (upd H s.heap.objs.size (.lst (z.cps.toList.map fun c => V.str ⟨#[c]⟩))) { s with heap := h', toks := tk } :=
    I.laid hk (Nat.le_refl _) ⟨by rw [List.length_map, Array.length_toList]; exact hz, acc'.toList, c', hv, by simpa using hS⟩
  exact ⟨.ref s.heap.objs.size, _, I2, rfl, q _ (I.hok.fresh (Nat.le_refl _))⟩
theorem ca_list (hc : X.calm = true) : DCa X (.type "list") cList := dca_of (call_list_of.or (call_listS hc)) fun xs H Q ⟨ds, h, Qd, rp, rh, q, o⟩ => by
  unfold cList at q
  split at q
  · cases rp with
    | cons r1 r2 =>
      cases r2
      cases r1 with
      | t sq r => exact .inl ⟨_, _, rfl, .inr sq, fun l hl => o _ _ _ _ (q l (rh.free hl)) (Go.new rh hl ⟨_, rfl, r.stb (Stb.new hl)⟩) (.v _)⟩
  · cases rp with
    | cons r1 r2 =>
      cases r1; cases r2
      refine .inr ⟨_, rfl, q.1, fun l hl => o _ _ _ _ (q.2 l (rh.free hl)) (Go.new rh hl ⟨_, rfl, ?_⟩) (.v _)⟩
      unfold chars
      have := Rps.mapV (K := X.gv.K) (H := upd H l (.lst ((‹Str›).cps.toList.map fun c => V.str ⟨#[c]⟩))) (xs := (‹Str›).cps.toList.map fun c => V.str ⟨#[c]⟩)
      rw [List.map_map] at this
      exact this
  · split at q
    · rename_i ys e
      cases rp with
      | cons r1 r2 =>
        cases r1; cases r2
        obtain ⟨vs, sq, r⟩ := rdL_ok rh e
        exact .inl ⟨_, _, rfl, .inl sq, fun l hl => o _ _ _ _ (q l (rh.free hl)) (Go.new rh hl ⟨_, rfl, r.stb (Stb.new hl)⟩) (.v _)⟩
    · exact q.elim
  · exact q.elim
theorem kit_sub {m n : String} (hm : m = "NoneType" ∨ m = "bool" ∨ m = "int" ∨ m = "str" ∨ m = "tuple" ∨ m = "list" ∨ m = "dict") (hn : tyKnown n = true) : kitB m n = some (subTy m n) := by
  have hn' : n = "int" ∨ n = "bool" ∨ n = "str" ∨ n = "tuple" ∨ n = "list" ∨ n = "dict" := by
    unfold tyKnown at hn
    simp only [Bool.or_eq_true, beq_iff_eq] at hn
    rcases hn with ((((hn | hn) | hn) | hn) | hn) | hn
    · exact .inl hn
    · exact .inr (.inl hn)
    · exact .inr (.inr (.inl hn))
    · exact .inr (.inr (.inr (.inl hn)))
    · exact .inr (.inr (.inr (.inr (.inl hn))))
    · exact .inr (.inr (.inr (.inr (.inr hn))))
  rcases hm with rfl | rfl | rfl | rfl | rfl | rfl | rfl <;> rcases hn' with rfl | rfl | rfl | rfl | rfl | rfl <;> decide +kernel
theorem ty_ok {K : PySem.W.Frag} {H : Hp} {h : Hd} {G : Gv} (eK : G.K = K) {d : D} {x : V} {m : String} (rp : Rp K H d x) (rh : RelH G H h) (e : tyName d h = some m) : TyX K H x (.type m) ∧ (m = "NoneType" ∨ m = "bool" ∨ m = "int" ∨ m = "str" ∨ m = "tuple" ∨ m = "list" ∨ m = "dict") := by
  cases rp with
  | t sq r =>
    cases e
    refine ⟨?_, by decide⟩
    rcases sq with (sq | ⟨o, sq⟩) | ⟨o, its, n, hk, hc, _⟩
    · exact .base (.tup sq)
    · exact .fTuple sq
    · exact .kTuple hk hc
  | k => cases e
  | v =>
    cases x with
    | non => cases e; exact ⟨.base .non, by decide⟩
    | bl b => cases e; exact ⟨.base (.bl b), by decide⟩
    | int i => cases e; exact ⟨.base (.int i), by decide⟩
    | str z => cases e; exact ⟨.base (.str z), by decide⟩
    | ref a =>
      have e : (match h a with
        | some (.lst _) => some "list"
        | some (.dk _) => some "dict"
        | some (.dt _) => some "dict"
        | _ => none) = some m := e
      subst eK
      split at e
      · rename_i q
        cases e
        obtain ⟨u, hu, vs, rfl, _⟩ := rh a _ q
        exact ⟨.base (.lst hu), by decide⟩
      · rename_i q
        cases e
        obtain ⟨u, hu, vs, rfl, _⟩ := rh a _ q
        exact ⟨.base (.dK hu), by decide⟩
      · rename_i q
        cases e
        obtain ⟨u, hu, vs, rfl, _⟩ := rh a _ q
        exact ⟨.base (.dT hu), by decide⟩
      · cases e
    | _ => cases e
theorem ca_isi : DCa X (.builtin "isinstance") cIsi := dca_of call_isi fun xs H Q ⟨ds, h, Qd, rp, rh, q, o⟩ => by
  unfold cIsi at q
  split at q
  · split at q
    · rename_i m em
      cases rp with
      | cons r1 r2 =>
        cases r2 with
        | cons r2 r3 =>
          cases r2; cases r3
          obtain ⟨ty, hm⟩ := ty_ok (G := X.gv) rfl r1 rh em
          exact ⟨_, _, _, _, _, rfl, .ty _, ty, kit_ty (kit_sub hm q.1), o _ h _ H q.2 (Go.refl rh) (.v _)⟩
    · exact q.elim
  · exact q.elim
end
end DL
/-! DLf: methods of built-in types, stores, dicts of the module, fields, over data -/
namespace DL
open PySem L2
/-! ### stores into lists -/
def setL : SetD := fun o i v h Q => match o, i with
  | .v (.ref a), .v (.int k) => match h a with
    | some (.lst xs) => (match ixN xs.length k with
      | some j => Q (put h a (.lst (xs.set j v)))
      | none => False)
    | _ => False
  | _, _ => False
section
variable {X : Cx} {B : Bs}
theorem dset_list : DSet X setL := fun pins s σ H o i v ov iv u Q I ro ri ru ⟨od, id, vd, h, Qd, po, pi, pv, rh, q, out⟩ => by
  refine set_list pins s σ H o i v ov iv u Q I ro ri ru ?_
  unfold setL at q
  split at q
  · split at q
    · rename_i a k _ xs e
      split at q
      · rename_i j ej
        cases po; cases pi
        obtain ⟨vs, hv, r⟩ := lst_ok rh e
        refine ⟨_, vs, _, j, rfl, rfl, hv, by rw [← r.length]; exact ej, out _ _ q (Go.set rh e hv trivial ⟨_, rfl, ?_⟩)⟩
        exact (r.set pv j).stb (Stb.set hv trivial)
      · exact q.elim
    · exact q.elim
  · exact q.elim
/-! ### methods -/
abbrev MD := D → List D → Hd → KD → Prop
def lM (G : Gv) (r : MD) : V → List V → Hp → VK → Prop := fun xV vs H QV => ∃ x ds h Q, Rp G.K H x xV ∧ Rps G.K H ds vs ∧ RelH G H h ∧ r x ds h Q ∧ OutE G H h Q QV
def DMt (X : Cx) (id : String) (r : MD) : Prop := MtR X id (lM X.gv r)
/-- the receiver's kind -/
def tyM (T : String) (x : D) (h : Hd) : Prop := match x with
  | .v (.str _) => T = "str"
  | .v (.ref a) => match h a with
    | some (.lst _) => T = "list"
    | some (.dk _) => T = "dict"
    | some (.dt _) => T = "dict"
    | _ => False
  | _ => False
theorem tyM_ok {G : Gv} {H : Hp} {h : Hd} {T : String} {x : D} {xV : V} (rp : Rp G.K H x xV) (rh : RelH G H h) (e : tyM T x h) : tyV G.K T xV H := by
  cases rp with
  | t => exact e.elim
  | k => exact e.elim
  | v =>
    cases xV with
    | str => exact e
    | ref a =>
      have e : (match h a with
        | some (.lst _) => T = "list"
        | some (.dk _) => T = "dict"
        | some (.dt _) => T = "dict"
        | _ => False) := e
      split at e
      · rename_i q
        obtain ⟨u, hu, vs, rfl, _⟩ := rh a _ q
        exact .inl ⟨e, vs, SqL.of hu⟩
      · rename_i q
        obtain ⟨u, hu, vs, rfl, _⟩ := rh a _ q
        exact .inr (.inr (.inl ⟨e, .inl ⟨vs, hu⟩⟩))
      · rename_i q
        obtain ⟨u, hu, vs, rfl, _⟩ := rh a _ q
        exact .inr (.inr (.inl ⟨e, .inr ⟨vs, hu⟩⟩))
      · exact e.elim
    | _ => exact e.elim
def dBM (T : String) (r : MD) (to : ED) (t : AD) : ED := fun σ h Q => to σ h fun x h1 => tyM T x h1 ∧ t σ h1 fun ds h2 => r x ds h2 Q
def dBM0 (T : String) (r : MD) (to : ED) : ED := fun σ h Q => to σ h fun x h1 => tyM T x h1 ∧ r x [] h1 Q
variable {o e : Expr} {es : List Expr} {to : ED} {t : AD} {name : Str} {apos cpos : Pos} {T id : String} {r : MD}
theorem de_bm (pa : PlainAttrs T) (slot : Slot T name id) (hty : typeOf (.builtin id) = pure (.type "method_descriptor")) (hm : DMt X id r) (ho : DE X B o to) (ha : DA X B (e :: es) t)
    (hbase : attributeBase o name X.env (eval o X.env) = eval o X.env := by rfl)
    (hfew : ((backTo cpos (starEach (e :: es) X.env)).all (fun x => !x.1) && (backToKw cpos (keywordEach [] X.env)).all (fun x => x.1.isSome)
      && decide ((e :: es).length + ([] : List Keyword).length + (if ([] : List Keyword).isEmpty then 0 else 1) < 30)) = true := by rfl)
    (hline : (apos.endLine == cpos.line) = true := by rfl) (hs : starEach (e :: es) X.env = (false, eval e X.env) :: starEach es X.env := by rfl) (hplain : (backTo cpos (starEach es X.env)).any (·.1) = false := by rfl) :
    DE X B (.Call (.Attribute o name apos) (e :: es) [] cpos) (dBM T r to t) :=
  PE.imp (pe_bm pa slot hty hm ho ha hbase hfew hline hs hplain) fun σV H QV ⟨σ, h, Q, r0, q, out⟩ => ⟨σ, h, _, r0, q, fun x h1 xV H1 q1 g1 rx =>
    ⟨tyM_ok rx g1.rh q1.1, σ, h1, _, r0.next g1, q1.2, fun ds h2 vs H2 q2 g2 rv _ => ⟨x, ds, h2, Q, rx.stb g2.st, rv, g2.rh, q2, out.on (g1.trans g2)⟩⟩⟩
theorem de_bm0 (pa : PlainAttrs T) (slot : Slot T name id) (hty : typeOf (.builtin id) = pure (.type "method_descriptor")) (hm : DMt X id r) (ho : DE X B o to)
    (hbase : attributeBase o name X.env (eval o X.env) = eval o X.env := by rfl) (hline : (apos.endLine == cpos.line) = true := by rfl) : DE X B (.Call (.Attribute o name apos) [] [] cpos) (dBM0 T r to) :=
  PE.imp (pe_bm0 pa slot hty hm ho hbase hline) fun σV H QV ⟨σ, h, Q, r0, q, out⟩ => ⟨σ, h, _, r0, q, fun x h1 xV H1 q1 g1 rx =>
    ⟨tyM_ok rx g1.rh q1.1, x, [], h1, Q, rx, .nil, g1.rh, q1.2, out.on g1⟩⟩
theorem dmt_of {X : Cx} {id : String} {r : V → List V → Hp → VK → Prop} {rd : MD} (hm : MtR X id r) (w : ∀ x xs H Q, lM X.gv rd x xs H Q → r x xs H Q) : DMt X id rd := fun pins s σ H x xs v us Q I rx rv h => hm pins s σ H x xs v us Q I rx rv (w x xs H Q h)
def mAppend : MD := fun x ds h Q => match x, ds with
  | .v (.ref a), [y] => match h a with
    | some (.lst xs) => xs.length < sizeLine ∧ Q (.v .non) (put h a (.lst (xs ++ [y])))
    | _ => False
  | _, _ => False
theorem dm_append : DMt X "list.append" mAppend := dmt_of mt_append fun x xs H Q ⟨dx, ds, h, Qd, rx, rv, rh, q, o⟩ => by
  unfold mAppend at q
  split at q
  · split at q
    · rename_i e
      cases rx
      cases rv with
      | cons r1 r2 =>
        cases r2
        obtain ⟨vs, hv, r⟩ := lst_ok rh e
        exact ⟨_, vs, _, rfl, rfl, hv, by rw [← r.length]; exact q.1, o _ _ _ _ q.2 (Go.set rh e hv trivial ⟨_, rfl, (r.append (.cons r1 .nil)).stb (Stb.set hv trivial)⟩) (.v _)⟩
    · exact q.elim
  · exact q.elim
/-- pop the last -/
def mPop : MD := fun x ds h Q => match x, ds with
  | .v (.ref a), [] => match h a with
    | some (.lst xs) => (match xs[xs.length - 1]? with
      | some y => Q y (put h a (.lst xs.dropLast))
      | none => False)
    | _ => False
  | _, _ => False
theorem dm_pop : DMt X "list.pop" mPop := dmt_of mt_pop fun x xs H Q ⟨dx, ds, h, Qd, rx, rv, rh, q, o⟩ => by
  unfold mPop at q
  split at q
  · split at q
    · rename_i ys e
      split at q
      · rename_i y ey
        cases rx; cases rv
        obtain ⟨vs, hv, r⟩ := lst_ok rh e
        obtain ⟨v, ev, rv⟩ := r.get ey
        have st : Stb H (upd H _ (.lst vs.dropLast)) := Stb.set hv trivial
        exact ⟨_, vs, v, rfl, rfl, hv, by rw [← r.length]; exact ev, o _ _ _ _ q (Go.set rh e hv trivial ⟨_, rfl, r.dropLast.stb st⟩) (rv.stb st)⟩
      · exact q.elim
    · exact q.elim
  · exact q.elim
def mRev : MD := fun x ds h Q => match x, ds with
  | .v (.ref a), [] => match h a with
    | some (.lst xs) => Q (.v .non) (put h a (.lst xs.reverse))
    | _ => False
  | _, _ => False
theorem dm_rev : DMt X "list.reverse" mRev := dmt_of mt_reverse fun x xs H Q ⟨dx, ds, h, Qd, rx, rv, rh, q, o⟩ => by
  unfold mRev at q
  split at q
  · split at q
    · rename_i ys e
      cases rx; cases rv
      obtain ⟨vs, hv, r⟩ := lst_ok rh e
      exact ⟨_, vs, rfl, rfl, hv, o _ _ _ _ q (Go.set rh e hv trivial ⟨_, rfl, r.reverse.stb (Stb.set hv trivial)⟩) (.v _)⟩
    · exact q.elim
  · exact q.elim
/-! ### join -/
/-- the texts of a list -/
def strsD : List D → Option (List Str)
  | [] => some []
  | .v (.str z) :: r => match strsD r with
    | some zs => some (z :: zs)
    | none => none
  | _ => none
theorem strsD_ok : ∀ {ds : List D} {zs : List Str}, strsD ds = some zs → ds = zs.map fun z => .v (.str z)
  | [], zs, h => by cases h; rfl
  | .v (.str z) :: r, zs, h => by
    unfold strsD at h
    split at h
    · rename_i q
      cases h
      rw [strsD_ok q]; rfl
    · cases h
  | .v .non :: _, _, h => by cases h
  | .v (.bl _) :: _, _, h => by cases h
  | .v (.int _) :: _, _, h => by cases h
  | .v (.byt _) :: _, _, h => by cases h
  | .v (.flt _) :: _, _, h => by cases h
  | .v (.ref _) :: _, _, h => by cases h
  | .v (.ty _) :: _, _, h => by cases h
  | .t _ :: _, _, h => by cases h
theorem strsD_map (zs : List Str) : strsD (zs.map fun z => .v (.str z)) = some zs := by
  induction zs with
  | nil => rfl
  | cons z r ih => rw [List.map_cons, strsD, ih]
def mJoin : MD := fun x ds h Q => match x, ds with
  | .v (.str a), [.t xs] => match strsD xs with
    | some ys => (ys.map (·.length)).sum + ys.length * a.length ≤ 16777216 ∧ Q (.v (.str (Txt.join a ys))) h
    | none => False
  | .v (.str a), [.v (.ref p)] => match rdL h p with
    | some xs => (match strsD xs with
      | some ys => (ys.map (·.length)).sum + ys.length * a.length ≤ 16777216 ∧ Q (.v (.str (Txt.join a ys))) h
      | none => False)
    | none => False
  | _, _ => False
theorem rps_strs {K : PySem.W.Frag} {H : Hp} {zs : List Str} {vs : List V} (r : Rps K H (zs.map fun z => .v (.str z)) vs) : vs = zs.map V.str := by
  refine Rps.ofV (K := K) (H := H) ?_
  rw [List.map_map]
  exact r
theorem dm_join : DMt X "str.join" mJoin := dmt_of mt_join fun x xs H Q ⟨dx, ds, h, Qd, rx, rv, rh, q, o⟩ => by
  unfold mJoin at q
  split at q
  · split at q
    · rename_i ys e
      cases rx
      cases rv with
      | cons r1 r2 =>
        cases r2
        cases r1 with
        | t sq r =>
          rw [strsD_ok e] at r
          have := rps_strs r
          subst this
          exact ⟨_, _, ys, rfl, rfl, .inr sq, q.1, o _ h _ H q.2 (Go.refl rh) (.v _)⟩
    · exact q.elim
  · split at q
    · rename_i zs ez
      split at q
      · rename_i ys e
        cases rx
        cases rv with
        | cons r1 r2 =>
          cases r2; cases r1
          obtain ⟨vs, sq, r⟩ := rdL_ok rh ez
          rw [strsD_ok e] at r
          have := rps_strs r
          subst this
          exact ⟨_, _, ys, rfl, rfl, .inl sq, q.1, o _ h _ H q.2 (Go.refl rh) (.v _)⟩
      · exact q.elim
    · exact q.elim
  · exact q.elim
/-! ### dicts of the module -/
def lkS (kvs : List (Str × D)) (z : Str) : Option D := match kvs with
  | [] => none
  | (k, d) :: r => if z = k then some d else lkS r z
/-- NAME[key] of a dict written at the module's top -/
def dKd (kvs : List (Str × D)) (tb : ED) : ED := fun σ h Q => tb σ h fun y h1 => match y with
  | .v (.str z) => (match lkS kvs z with
    | some d => Q d h1
    | none => False)
  | _ => False
/-- what the written part must tell -/
def KdOk (K : PySem.W.Frag) (w : World) (p : Addr) (kvs : List (Str × D)) : Prop := ∀ z d, lkS kvs z = some d → ∃ v, KDct K w p z v ∧ ∀ H, Rp K H d v
theorem de_kd {x : Str} {px pos : Pos} {b : Expr} {tb : ED} {p : Addr} {kvs : List (Str × D)} (hm : X.mg x = some (.ref p)) (hk : KdOk X.K X.w p kvs) (hb : DE X B b tb) (hg : Gl X x := by rfl) (hd : (x == ("__debug__" : Str)) = false := by decide) (hs : PlainIx b := by exact fun _ _ => rfl) :
    DE X B (.Subscript (.Name x px) b pos) (dKd kvs tb) :=
  PE.imp (pe_ix ix_kdict (pe_glob (v := .ref p) hg hm rfl hd) hb hs) fun σV H QV ⟨σ, h, Q, r0, q, o⟩ => ⟨σ, h, _, r0, q, fun y h1 yV H1 q1 g1 ry => by
    split at q1
    · split at q1
      · rename_i e
        cases ry
        obtain ⟨v, kd, rv⟩ := hk _ _ e
        exact ⟨p, _, v, rfl, rfl, kd, (o.on g1) _ h1 v H1 q1 (Go.refl g1.rh) (rv H1)⟩
      · exact q1.elim
    · exact q1.elim⟩
/-- a constant of the module -/
structure KC (K : PySem.W.Frag) (mg : Str → Option Value) (x : Str) (d : D) : Prop where
  ex : ∃ u v, mg x = some u ∧ RelV v u ∧ ∀ H, Rp K H d v
theorem de_gc {x : Str} {d : D} {pos : Pos} (k : KC X.K X.mg x d) (hg : Gl X x := by rfl) (hd : (x == ("__debug__" : Str)) = false := by decide) : DE X B (.Name x pos) (dC d) := by
  obtain ⟨u, v, m, r, rp⟩ := k.ex
  exact de_glob hg m r rp hd
/-- a dict of the module -/
structure KDc (K : PySem.W.Frag) (mg : Str → Option Value) (w : World) (x : Str) (kvs : List (Str × D)) : Prop where
  ex : ∃ p, mg x = some (.ref p) ∧ KdOk K w p kvs
theorem de_kdc {x : Str} {px pos : Pos} {b : Expr} {tb : ED} {kvs : List (Str × D)} (k : KDc X.K X.mg X.w x kvs) (hb : DE X B b tb) (hg : Gl X x := by rfl) (hd : (x == ("__debug__" : Str)) = false := by decide) (hs : PlainIx b := by exact fun _ _ => rfl) :
    DE X B (.Subscript (.Name x px) b pos) (dKd kvs tb) := by
  obtain ⟨p, m, kd⟩ := k.ex
  exact de_kd m kd hb hg hd hs
theorem u50 {k : Nat} {A : Around} (hr : Room k A) : A.units + 50 < cLine := by have := hr.units; omega
end
end DL
/-! DLg: dicts over data -/
namespace DL
open PySem L2
def keyD : D → Option Key
  | .v (.int i) => some (.inl i)
  | .v (.str z) => some (.inr z)
  | _ => none
def keysD : List D → Option (List Key)
  | [] => some []
  | d :: r => match keyD d, keysD r with
    | some k, some ks => some (k :: ks)
    | _, _ => none
def kD : Key → D
  | .inl i => .v (.int i)
  | .inr z => .v (.str z)
theorem keyD_ok {d : D} {k : Key} (e : keyD d = some k) : d = .v (kV k) := by
  unfold keyD at e
  split at e <;> cases e <;> rfl
theorem keysD_ok : ∀ {ds : List D} {ks : List Key}, keysD ds = some ks → ds = (ks.map kV).map D.v
  | [], ks, e => by cases e; rfl
  | d :: r, ks, e => by
    unfold keysD at e
    split at e
    · rename_i k ks' e1 e2
      cases e
      rw [keyD_ok e1, keysD_ok e2]; rfl
    · cases e
section
variable {κ : Type} [DecidableEq κ]
def valD (kvs : List (κ × D)) (k : κ) : Option D := match kvs with
  | [] => none
  | p :: r => if p.1 = k then some p.2 else valD r k
def putD (kvs : List (κ × D)) (k : κ) (v : D) : List (κ × D) := if (valD kvs k).isSome then kvs.map fun kv => if kv.1 = k then (kv.1, v) else kv else kvs ++ [(k, v)]
theorem valD_rel {G : Gv} {H : Hp} {k : κ} : ∀ {kvs : List (κ × D)} {vs : List (κ × V)}, RpK G H kvs vs → (∀ d, valD kvs k = some d → ∃ v, valV vs k = some v ∧ Rp G.K H d v) ∧ (valD kvs k = none → valV vs k = none)
  | _, _, .nil => ⟨fun _ e => (by cases e), fun _ => rfl⟩
  | p :: r, q :: s, .cons h t => by
    obtain ⟨h1, h2⟩ := h
    have ih := valD_rel (k := k) t
    unfold valD
    by_cases e : p.1 = k
    · rw [if_pos e, valV_pos (by rw [← h1]; exact e)]
      exact ⟨fun d e => (by cases e; exact ⟨_, rfl, h2⟩), fun e => (by cases e)⟩
    · rw [if_neg e, valV_neg (by rw [← h1]; exact e)]
      exact ih
theorem valD_some {G : Gv} {H : Hp} {k : κ} {kvs : List (κ × D)} {vs : List (κ × V)} (r : RpK G H kvs vs) : (valD kvs k).isSome = (valV vs k).isSome := by
  have z := valD_rel (k := k) r
  cases e : valD kvs k with
  | none => rw [z.2 e]; rfl
  | some d => obtain ⟨v, ev, _⟩ := z.1 d e; rw [ev]; rfl
theorem putD_rel {G : Gv} {H : Hp} {k : κ} {d : D} {v : V} {kvs : List (κ × D)} {vs : List (κ × V)} (r : RpK G H kvs vs) (rv : Rp G.K H d v) : RpK G H (putD kvs k d) (putK vs k v) := by
  have any : (vs.any fun kv => decide (kv.1 = k)) = (valV vs k).isSome := valV_any k vs
  unfold putD
  rw [valD_some r]
  unfold putK
  rw [any]
  split
  · have go : ∀ {kvs : List (κ × D)} {vs : List (κ × V)}, RpK G H kvs vs → RpK G H (kvs.map fun kv => if kv.1 = k then (kv.1, d) else kv) (vs.map fun kv => if kv.1 = k then (kv.1, v) else kv) := by
      intro kvs vs r
      unfold RpK at r
      induction r with
      | nil => exact .nil
      | @cons p q ps qs h t ih =>
        refine .cons ?_ ih
        obtain ⟨h1, h2⟩ := h
        by_cases e : p.1 = k
        · simp only [if_pos e, if_pos (h1 ▸ e : q.1 = k)]
          exact ⟨h1, rv⟩
        · simp only [if_neg e, if_neg (h1 ▸ e : ¬ q.1 = k)]
          exact ⟨h1, h2⟩
    exact go r
  · have app : ∀ {kvs : List (κ × D)} {vs : List (κ × V)}, RpK G H kvs vs → RpK G H (kvs ++ [(k, d)]) (vs ++ [(k, v)]) := by
      intro kvs vs r
      unfold RpK at r
      induction r with
      | nil => exact .cons ⟨rfl, rv⟩ .nil
      | cons h t ih => exact .cons h ih
    exact app r
end
theorem RpK.len {κ : Type} {G : Gv} {H : Hp} {kvs : List (κ × D)} {vs : List (κ × V)} (r : RpK G H kvs vs) : kvs.length = vs.length := Paired.length r
theorem dt_ok {G : Gv} {H : Hp} {h : Hd} {a : Addr} {kvs : List (List Key × D)} (r : RelH G H h) (e : h a = some (.dt kvs)) : ∃ vs, H a = some (.dT vs) ∧ RpK G H kvs vs := by
  obtain ⟨u, hu, vs, rfl, rp⟩ := r a _ e
  exact ⟨vs, hu, rp⟩
/-! ### what a dict holds -/
section
variable {X : Cx} {pins : List (Addr × Obj)} {σ : St} {H : Hp} {s : Shared} {A : Around} {E : Value → Shared → Prop}
/-- a tuple as a key -/
theorem key_sq (I : Inv X pins σ H s) {b : Addr} {ks : List Key} (sq : SqT X.K H b (ks.map kV)) : IsTupleKey (mixKind X.prog X.w) s.heap ks b := by
  obtain ⟨its, r, ⟨o, e, c, n, d⟩, _⟩ := I.tuple sq
  exact ⟨o, its.toArray, n, e, c, d, by simpa using items_are r⟩
/-- d[k], k a tuple of any standing -/
theorem d_getT {a b : Addr} {kvs : List (List Key × V)} {k : List Key} {v : V} {Q : Value → Shared → Prop} (hu : A.units + 1 < cLine) (I : Inv X pins σ H s) (e : Rd H a (.dT kvs)) (sq : SqT X.K H b (k.map kV)) (l : valV kvs k = some v)
    (h : ∀ w' s', Inv X pins σ H s' → RelV v w' → Q w' s') : wpAny (model X.prog X.w) A (getItem (.ref a) (.ref b)) Q E s := by
  obtain ⟨z, hd, xs, rel, dd⟩ := dt_rd I.hok e
  obtain ⟨w', hw, rw'⟩ := RelO.some_of (v := v) (o := (atKey xs k).map (·.2)) (by rw [← l]; exact rel.val k)
  obtain ⟨p, hp, hp2⟩ := Option.map_eq_some_iff.mp hw
  refine wpAny_getItem_heap (tupleKind_room_in1 hu) (key_sq I sq) dd hp ?_
  rw [hp2]
  exact h w' _ (I.tok _) rw'
end
/-- dict[y], by values -/
theorem ix_dict {X : Cx} (hu : X.A.units + 1 < cLine) : IxR X (fun x y H Q => ∃ a v, x = .ref a ∧ DGet H a y (some v) ∧ Q v H) := by
  intro value slice pins s σ H x y v u Q I rx ry h hs
  obtain ⟨a, z, rfl, g, q⟩ := h
  obtain rfl : v = Value.ref a := rx
  exact PyProof.Rows.tail_any (dict_typeIs I g) PySem.F.slot_dict_getitem.lookup (d_getItem hu I g ry fun w' s3 I3 rw' => ⟨z, H, I3, rw', q⟩) hs
theorem dget_dk {G : Gv} {H : Hp} {h : Hd} {a : Addr} {kvs : List (Key × D)} {k : Key} {d : D} (rh : RelH G H h) (e : h a = some (.dk kvs)) (l : valD kvs k = some d) : ∃ v, DGet H a (kV k) (some v) ∧ Rp G.K H d v := by
  obtain ⟨vs, hv, r⟩ := dk_ok rh e
  obtain ⟨v, ev, rv⟩ := (valD_rel (k := k) r).1 d l
  exact ⟨v, .inl ⟨vs, k, .inl hv, rfl, ev.symm⟩, rv⟩
/-- sequences and dicts -/
def pIt : R2d := fun x y h Q => match x with
  | .v (.ref a) => match h a with
    | some (.dk kvs) => (match keyD y with
      | some k => (match valD kvs k with
        | some d => Q d h
        | none => False)
      | none => False)
    | _ => pIx x y h Q
  | _ => pIx x y h Q
section
variable {X : Cx} {B : Bs} {a b : Expr} {ta tb : ED} {pos : Pos}
theorem ix_seqD {x y : D} {h : Hd} {Q : KD} {H : Hp} {xv yv : V} {QV : VK} (rx : Rp X.K H x xv) (ry : Rp X.K H y yv) (rh : RelH X.gv H h) (q : pIx x y h Q) (o : OutE X.gv H h Q QV) : rIx X.K xv yv H QV := by
  unfold pIx at q
  split at q
  · split at q
    · rename_i e
      cases ry
      cases rx with
      | t sq r =>
        obtain ⟨v, ev, rv⟩ := atI_rp r e
        exact .inr (.inl ⟨_, _, _, v, rfl, rfl, sq, ev, o _ h v H q (Go.refl rh) rv⟩)
    · exact q.elim
  · split at q
    · rename_i e
      cases ry
      cases rx with
      | k sq r =>
        obtain ⟨v, ev, rv⟩ := atI_rp r e
        exact .inl ⟨_, _, _, v, rfl, rfl, sq.sq, ev, o _ h v H q (Go.refl rh) rv⟩
    · exact q.elim
  · obtain ⟨hz, q⟩ := q
    split at q
    · rename_i e
      cases rx; cases ry
      exact .inr (.inr ⟨_, _, _, rfl, rfl, hz, e, o _ h _ H q (Go.refl rh) (.v _)⟩)
    · exact q.elim
  · split at q
    · rename_i xs e
      split at q
      · rename_i e2
        cases rx; cases ry
        obtain ⟨vs, sq, r⟩ := rdL_ok rh e
        obtain ⟨v, ev, rv⟩ := atI_rp r e2
        exact .inl ⟨_, _, _, v, rfl, rfl, sq, ev, o _ h v H q (Go.refl rh) rv⟩
      · exact q.elim
    · exact q.elim
  · exact q.elim
theorem de_it {k : Nat} (hr : Room k X.A) (ha : DE X B a ta) (hb : DE X B b tb) (hs : PlainIx b := by exact fun _ _ => rfl) : DE X B (.Subscript a b pos) (d2 pIt ta tb) :=
  PE.imp (pe_ix (ix_seq.or (ix_dict (hu_of hr))) ha hb hs) fun σV H QV ⟨σ, h, Q, r0, q, o⟩ => ⟨σ, h, _, r0, q, fun x h1 xv H1 q1 g1 rx => ⟨σ, h1, _, r0.next g1, q1, fun y h2 yv H2 q2 g2 ry => by
    have rx := rx.stb g2.st
    have o := o.on (g1.trans g2)
    unfold pIt at q2
    split at q2
    · split at q2
      · rename_i kvs e
        split at q2
        · rename_i k ek
          split at q2
          · rename_i d ed
            have ey := keyD_ok ek
            subst ey
            cases rx; cases ry
            obtain ⟨v, g, rv⟩ := dget_dk g2.rh e ed
            exact .inr ⟨_, v, rfl, g, o _ h2 v H2 q2 (Go.refl g2.rh) rv⟩
          · exact q2.elim
        · exact q2.elim
      · exact .inl (ix_seqD rx ry g2.rh q2 o)
    · exact .inl (ix_seqD rx ry g2.rh q2 o)⟩⟩
/-- d[k] = v -/
def setK : SetD := fun o i v h Q => match o with
  | .v (.ref a) => match h a with
    | some (.dk kvs) => (match keyD i with
      | some k => kvs.length < sizeLine ∧ Q (put h a (.dk (putD kvs k v)))
      | none => False)
    | _ => setL o i v h Q
  | _ => setL o i v h Q
theorem dset_all {k : Nat} (hr : Room k X.A) : DSet X setK := fun pins s σ H o i v ov iv u Q I ro ri ru ⟨od, id, vd, h, Qd, po, pi, pv, rh, q, out⟩ => by
  unfold setK at q
  split at q
  · split at q
    · rename_i kvs e
      split at q
      · rename_i kk ek
        have ey := keyD_ok ek
        subst ey
        cases po; cases pi
        obtain rfl : ov = Value.ref _ := ro
        obtain ⟨vs, hv, r⟩ := dk_ok rh e
        exact d_setItem (hu_of hr) I (DPut.k (k := kk) hv (by rw [← r.len]; exact q.1)) ri ru fun s' I' => ⟨_, I', out _ _ q.2 (Go.set rh e hv trivial ⟨_, rfl, (putD_rel r pv).stb (Stb.set hv trivial)⟩)⟩
      · exact q.elim
    · exact dset_list pins s σ H o i v ov iv u Q I ro ri ru ⟨_, id, vd, h, Qd, po, pi, pv, rh, q, out⟩
  · exact dset_list pins s σ H o i v ov iv u Q I ro ri ru ⟨od, id, vd, h, Qd, po, pi, pv, rh, q, out⟩
/-- y in x, dicts too -/
def pMemB (neg : Bool) : R2d := fun x y h Q => match y with
  | .v (.ref a) => match h a with
    | some (.dk kvs) => (match keyD x with
      | some k => Q (.v (.bl (if neg then !(valD kvs k).isSome else (valD kvs k).isSome))) h
      | none => False)
    | _ => pInB neg x y h Q
  | _ => pInB neg x y h Q
abbrev pMem : R2d := pMemB false
abbrev pNotMem : R2d := pMemB true
theorem mem_or {neg : Bool} {x y : V} {H : Hp} {Q : VK} (hh : l2 X.gv (pMemB neg) x y H Q) : (∃ a o, y = .ref a ∧ DGet H a x o ∧ Q (.bl (if neg then !o.isSome else o.isSome)) H) ∨ l2 X.gv (pInB neg) x y H Q := by
  obtain ⟨dx, dy, h, Qd, rx, ry, rh, q, o⟩ := hh
  unfold pMemB at q
  split at q
  · split at q
    · rename_i kvs e
      split at q
      · rename_i k ek
        have ey := keyD_ok ek
        subst ey
        cases rx; cases ry
        obtain ⟨vs, hv, r⟩ := dk_ok rh e
        refine .inl ⟨_, valV vs k, rfl, .inl ⟨vs, k, .inl hv, rfl, rfl⟩, ?_⟩
        rw [valD_some r] at q
        exact o _ h _ H q (Go.refl rh) (.v _)
      · exact q.elim
    · exact .inr ⟨dx, _, h, Qd, rx, ry, rh, q, o⟩
  · exact .inr ⟨dx, dy, h, Qd, rx, ry, rh, q, o⟩
theorem do_mem {k : Nat} (hr : Room k X.A) : DOp X (compareOp .In) pMem := fun pins s σ H x y v u Q I rx ry hh => by
  rcases mem_or hh with ⟨a, o, rfl, g, q⟩ | hh
  · obtain rfl : u = Value.ref a := ry
    exact d_in (hu_of hr) I g rx fun s' I' => ⟨.bl o.isSome, H, I', rfl, q⟩
  · exact do_in pins s σ H x y v u Q I rx ry hh
theorem do_notmem {k : Nat} (hr : Room k X.A) : DOp X (compareOp .NotIn) pNotMem := fun pins s σ H x y v u Q I rx ry hh => by
  rcases mem_or hh with ⟨a, o, rfl, g, q⟩ | hh
  · obtain rfl : u = Value.ref a := ry
    exact d_notIn (hu_of hr) I g rx fun s' I' => ⟨.bl (!o.isSome), H, I', rfl, q⟩
  · exact do_notin pins s σ H x y v u Q I rx ry hh
/-! ### displays -/
def dPairs : List (ED × ED) → Sd → Hd → (List (Key × D) → Hd → Prop) → Prop
  | [], _, h, Q => Q [] h
  | (k, v) :: r, σ, h, Q => k σ h fun x h1 => v σ h1 fun y h2 => match keyD x with
    | some key => dPairs r σ h2 fun ps h3 => Q ((key, y) :: ps) h3
    | none => False
def mergeD (kvs more : List (Key × D)) : List (Key × D) := more.foldl (fun acc kv => putD acc kv.1 kv.2) kvs
theorem mergeD_rel {G : Gv} {H : Hp} : ∀ {more : List (Key × D)} {mv : List (Key × V)} {kvs : List (Key × D)} {vs : List (Key × V)}, RpK G H more mv → RpK G H kvs vs → RpK G H (mergeD kvs more) (mergeK vs mv)
  | _, _, _, _, .nil, r => r
  | p :: ms, q :: mv, kvs, vs, .cons h t, r => by
    unfold mergeD mergeK
    rw [List.foldl_cons, List.foldl_cons, ← h.1]
    exact mergeD_rel t (putD_rel r h.2)
def dDisp (trs : List (ED × ED)) : ED := fun σ h Q => dPairs trs σ h fun kvs h2 => al h2 (fun p => Q (.v (.ref p)) (put h2 p (.dk (mergeD [] kvs)))) .mk
structure DPs (X : Cx) (B : Bs) (pos : Pos) (keys : List (Option Expr)) (values : List Expr) (trs : List (ED × ED)) : Prop where
  ps : PPs X pos keys values (trs.map fun t => (lE X.gv B t.1, lE X.gv B t.2))
  len : trs.length = keys.length
theorem dps_nil {X : Cx} {B : Bs} {pos : Pos} : DPs X B pos [] [] [] := ⟨pps_nil, rfl⟩
theorem dps_cons {X : Cx} {B : Bs} {pos : Pos} {k v : Expr} {ks : List (Option Expr)} {vs : List Expr} {tk tv : ED} {trs : List (ED × ED)} (hk : DE X B k tk) (hv : DE X B v tv) (hr : DPs X B pos ks vs trs) : DPs X B pos (some k :: ks) (v :: vs) ((tk, tv) :: trs) := ⟨pps_cons hk hv hr.ps, congrArg Nat.succ hr.len⟩
theorem pairs_of {G : Gv} {B : Bs} {σV : St} {σ : Sd} : ∀ {trs : List (ED × ED)} {h : Hd} {H : Hp} {Q : List (Key × D) → Hd → Prop} {QV : List (V × V) → Hp → Prop}, R0 G B σ h σV H → dPairs trs σ h Q →
    (∀ kvs vs h' H', Q kvs h' → Go G H h H' h' → RpK G H' kvs vs → kvs.length = trs.length → QV (vs.map fun kv => (kV kv.1, kv.2)) H') → tPairs (trs.map fun t => (lE G B t.1, lE G B t.2)) σV H QV
  | [], h, H, Q, QV, r0, q, o => o [] [] h H q (Go.refl r0.h) .nil rfl
  | (tk, tv) :: trs, h, H, Q, QV, r0, q, o => by
    refine ⟨σ, h, _, r0, q, fun x h1 xv H1 q1 g1 rx => ⟨σ, h1, _, r0.next g1, q1, fun y h2 yv H2 q2 g2 ry => ?_⟩⟩
    split at q2
    · rename_i k ek
      have ey := keyD_ok ek
      subst ey
      cases rx
      refine pairs_of ((r0.next g1).next g2) q2 fun kvs vs h3 H3 q3 g3 r3 l3 => ?_
      exact o _ ((k, yv) :: vs) h3 H3 q3 ((g1.trans g2).trans g3) (.cons ⟨rfl, ry.stb g3.st⟩ r3) (congrArg Nat.succ l3)
    · exact q2.elim
theorem de_disp {keys : List (Option Expr)} {values : List Expr} {trs : List (ED × ED)} (h : DPs X B pos keys values trs) (hall : keys.all (·.isSome) = true := by rfl) (hl : keys.length = values.length := by rfl) (h0 : keys ≠ [] := by (intro z; cases z)) (h15 : keys.length ≤ 15 := by decide) :
    DE X B (.Dict keys values pos) (dDisp trs) :=
  PE.imp (pe_disp h.ps hall hl h0 h15) fun σV H QV ⟨σ, hh, Q, r0, q, o⟩ => fun p hp => by
    have n0 : hh p = none := r0.h.free hp
    have g0 : Go X.gv H hh (upd H p (.dK [])) hh := Go.hid r0.h hp
    refine pairs_of (r0.next g0) q fun kvs vs h2 H2 q2 g2 r2 l2 => ?_
    have f2 := g2.fr p _ upd_same n0
    refine ⟨f2.1, vs, rfl, by rw [← r2.len, l2, h.len]; exact h15, ?_⟩
    have g02 := g0.trans g2
    have rm : RpK X.gv H2 (mergeD [] kvs) (mergeK [] vs) := mergeD_rel r2 .nil
    refine o _ _ _ _ (q2 p f2.2) ⟨g02.st.trans (Stb.set f2.1 trivial), fun a o' e' n => ?_, fun b ob eb => ?_⟩ (.v _)
    · have z : a ≠ p := ne_of_none e' hp
      exact ⟨by rw [upd_ne z]; exact (g02.fr a o' e' n).1, by rw [put_ne z]; exact (g02.fr a o' e' n).2⟩
    · by_cases z : b = p
      · subst z
        rw [put_same] at eb; cases eb
        exact ⟨_, upd_same, _, rfl, rm.stb (Stb.set f2.1 trivial)⟩
      · rw [put_ne z] at eb
        obtain ⟨u, eu, ou⟩ := g2.rh b ob eb
        exact ⟨u, by rw [upd_ne z]; exact eu, ou.stb (Stb.set f2.1 trivial)⟩
/-- a display of constants -/
def dDispC (kvs : List (Key × D)) : ED := fun _ h Q => al h (fun p => Q (.v (.ref p)) (put h p (.dk (mergeD [] kvs)))) .mk
theorem dPairs_const {σ : Sd} {h : Hd} : ∀ {kvs : List (Key × D)} {Q : List (Key × D) → Hd → Prop}, Q kvs h → dPairs (kvs.map fun kv => (dC (kD kv.1), dC kv.2)) σ h Q
  | [], _, q => q
  | (k, d) :: r, Q, q => by
    have e : keyD (kD k) = some k := by cases k <;> rfl
    show (match keyD (kD k) with
      | some key => dPairs (r.map fun kv => (dC (kD kv.1), dC kv.2)) σ h fun ps h3 => Q ((key, d) :: ps) h3
      | none => False)
    rw [e]
    exact dPairs_const q
theorem de_dispC {keys : List (Option Expr)} {values : List Expr} {kvs : List (Key × D)} (h : DPs X B pos keys values (kvs.map fun kv => (dC (kD kv.1), dC kv.2))) (hall : keys.all (·.isSome) = true := by rfl) (hl : keys.length = values.length := by rfl) (h0 : keys ≠ [] := by (intro z; cases z)) (h15 : keys.length ≤ 15 := by decide) :
    DE X B (.Dict keys values pos) (dDispC kvs) :=
  PE.imp (de_disp h hall hl h0 h15) fun σV H QV ⟨σ, hh, Q, r0, q, o⟩ => ⟨σ, hh, Q, r0, dPairs_const q, o⟩
def dNewK : ED := fun _ h Q => al h (fun p => Q (.v (.ref p)) (put h p (.dk []))) .mk
theorem de_dnew : DE X B (.Dict [] [] pos) dNewK :=
  PE.imp pe_dnewK fun σV H QV ⟨σ, h, Q, r0, q, o⟩ => fun p hp => o _ _ _ _ (q p (r0.h.free hp)) (Go.new r0.h hp ⟨[], rfl, .nil⟩) (.v _)
end
end DL
/-! DLh: what the module's top has written; a law's end -/
namespace DL
open PySem L2
section
variable {K : PySem.W.Frag} {h : Heap} {mg : Str → Option Value}
theorem df_mk (X : K.In h) (G : h.Ns mainGlobals mg) {x : Str} {st : Stmt} {ps : List Str} {f : Addr} {od an : Option Addr} {sl : Array (Option Value)} {oc kV dc pm cd ct : Value}
    (a : PySem.W.nsIn K mainGlobals x = some (some (.ref f))) (l : K.lookup f = some ⟨oc, od, .func (PySem.W.fnOf x x (defArgs st) (defBody st) (defScope st) .none kV dc pm an cd ct), sl⟩) (c : PySem.W.codeIn K cd x = true) (k : PySem.W.keepIn K (.ref f) = true)
    (b : ∀ (kV doc pm : Value) (an : Option Addr) (cdv ct : Value) (us : List Value), us.length = ps.length → bindArgs (PySem.W.fnOf x x (defArgs st) (defBody st) (defScope st) .none kV doc pm an cdv ct) ⟨us, []⟩ = pure (ps.zip us)) : Df K mg x st ps :=
  ⟨f, _, fun_mk (st := st) l c k, PySem.W.mg_of X G a, (fun_mk (st := st) l c k).binds b⟩
theorem n_mk (X : K.In h) (G : h.Ns mainGlobals mg) {x : Str} (a : PySem.W.nsIn K mainGlobals x = some none) : mg x = none := PySem.W.mg_none_of X G a
/-- a datum, a value of the model -/
def Uv (K : PySem.W.Frag) (d : D) (u : Value) : Prop := ∃ v, RelV v u ∧ ∀ H, Rp K H d v
inductive Uvs (K : PySem.W.Frag) : List D → List Value → Prop
  | nil : Uvs K [] []
  | cons {d : D} {ds : List D} {u : Value} {us : List Value} : Uv K d u → Uvs K ds us → Uvs K (d :: ds) (u :: us)
theorem uv_str {z : Str} {t : Tok} : Uv K (.v (.str z)) (.str z t) := ⟨.str z, ⟨_, rfl⟩, fun _ => .v _⟩
theorem uv_int {i : Int} {t : Tok} : Uv K (.v (.int i)) (.int i t) := ⟨.int i, ⟨_, rfl⟩, fun _ => .v _⟩
theorem Uvs.vals : ∀ {ds : List D} {us : List Value}, Uvs K ds us → ∃ vs, Vals vs us ∧ ∀ H, Rps K H ds vs
  | _, _, .nil => ⟨[], .nil, fun _ => .nil⟩
  | _, _, .cons ⟨v, r, p⟩ t => by
    obtain ⟨vs, q, s⟩ := Uvs.vals t
    exact ⟨v :: vs, .cons r q, fun H => .cons (p H) (s H)⟩
theorem uv_tup {ds : List D} {a : Addr} {od : Option Addr} {its : Array Value} {n : Nat} {sl : Array (Option Value)} (l : K.lookup a = some ⟨.type "tuple", od, .seq its n, sl⟩) (z : its.size ≤ sizeLine) (r : Uvs K ds its.toList) : Uv K (.t ds) (.ref a) := by
  obtain ⟨vs, q, s⟩ := r.vals
  exact ⟨.ref a, rfl, fun H => .t (.inr ⟨_, its, n, l, rfl, rfl, z, q⟩) (s H)⟩
theorem kc_mk (X : K.In h) (G : h.Ns mainGlobals mg) {x : Str} {d : D} {u : Value} (a : PySem.W.nsIn K mainGlobals x = some (some u)) (r : Uv K d u) : KC K mg x d := by
  obtain ⟨v, r1, r2⟩ := r
  exact ⟨u, v, PySem.W.mg_of X G a, r1, r2⟩
/-- the pairs of a dict written at the top -/
def KdAll (K : PySem.W.Frag) (a : Addr) (kvs : List (Str × D)) : Prop := ∀ z d, lkS kvs z = some d → ∃ u, PySem.W.nsIn K a z = some (some u) ∧ Uv K d u
theorem ka_nil {a : Addr} : KdAll K a [] := fun z d e => by cases e
theorem ka_cons {a : Addr} {x : Str} {d : D} {u : Value} {r : List (Str × D)} (e : PySem.W.nsIn K a x = some (some u)) (q : Uv K d u) (t : KdAll K a r) : KdAll K a ((x, d) :: r) := fun z d' e' => by
  unfold lkS at e'
  split at e'
  · rename_i h
    cases e'
    subst h
    exact ⟨u, e, q⟩
  · exact t z d' e'
theorem kdc_mk {w : World} (X : K.In h) (G : h.Ns mainGlobals mg) {x : Str} {p : Addr} {kvs : List (Str × D)} {es : Array DictEntry} {n : Nat} (a : PySem.W.nsIn K mainGlobals x = some (some (.ref p))) (l : K.lookup p = some ⟨.type "dict", none, .dict es n, #[]⟩)
    (kl : PySem.W.KeysLit w.params es.toList) (al : KdAll K p kvs) : KDc K mg w x kvs :=
  ⟨p, PySem.W.mg_of X G a, fun z d e => by
    obtain ⟨u, e1, v, r, q⟩ := al z d e
    exact ⟨v, ⟨es, n, u, l, kl, e1, r⟩, q⟩⟩
/-- the script's numbers as data -/
def intsD (ns : List Int) : List D := ns.map fun n => .v (.int n)
def emp : Hd := fun _ => none
/-- a law's promise -/
def lawSp : SpD := fun ds h Q _ => ∃ ns : List Int, ds = [.k (intsD ns)] ∧ h = emp ∧ ns.length ≤ 63 ∧ (∀ z ∈ ns, Builtin.Int.intBits z ≤ 1048576) ∧ ∀ h', Q (.v (.bl true)) h'
theorem law_len {ds : List D} {h : Hd} {Q : KD} {E : XD → Hd → Prop} (q : lawSp ds h Q E) : ds.length = ["script"].length := by
  obtain ⟨_, rfl, _⟩ := q
  rfl
def lawSpV (K : PySem.W.Frag) : Sp := fun vs H Q _ => ∃ (a : Addr) (ns : List Int), vs = [.ref a] ∧ Only H ∧ SqL K H a (ns.map V.int) ∧ ns.length ≤ 63 ∧ (∀ z ∈ ns, Builtin.Int.intBits z ≤ 1048576) ∧ ∀ H', Q (.bl true) H'
theorem lawSpV_of {vs : List V} {H : Hp} {Q : VK} {E : XK} (q : lawSpV K vs H Q E) : lSp ⟨K, mg⟩ lawSp vs H Q E := by
  obtain ⟨a, ns, rfl, hO, hS, hl, hb, hq⟩ := q
  have sf : SqF K H a (ns.map V.int) := by
    rcases hS with (hS | ⟨o, hS⟩) | hS
    · rcases hO a with e | ⟨o, xs, e⟩
      · rw [hS] at e; cases e
      · rw [hS] at e; cases e
    · exact .inl ⟨o, hS⟩
    · exact .inr hS
  refine ⟨[.k (intsD ns)], emp, fun d _ => d = .v (.bl true), fun _ _ => False, .cons (.k sf ?_) .nil, fun a o e => (by cases e), ⟨ns, rfl, rfl, hl, hb, fun _ => rfl⟩, fun d h' v H' e _ r => ?_, fun _ _ _ _ _ e _ _ => e.elim⟩
  · have := Rps.mapV (K := K) (H := H) (xs := ns.map V.int)
    rw [List.map_map] at this
    exact this
  · subst e
    cases r
    exact hq H'
theorem law_fn {l : PySem.W.OpenLaw} {w : World} (X : K.In h) (G : h.Ns mainGlobals mg) {fa : Addr} (hfa : mg "law" = some (.ref fa)) {st : Stmt} {k : Nat} {f : Addr} {od an : Option Addr} {sl : Array (Option Value)} {oc kV dc pm cd ct : Value}
    (a : PySem.W.nsIn K mainGlobals "law" = some (some (.ref f))) (lk : K.lookup f = some ⟨oc, od, .func (PySem.W.fnOf "law" "law" (defArgs st) (defBody st) (defScope st) .none kV dc pm an cd ct), sl⟩) (c : PySem.W.codeIn K cd "law" = true) (kp : PySem.W.keepIn K (.ref f) = true)
    (b : ∀ (s : Shared) (u : Value), BindsTo s (PySem.W.fnOf "law" "law" (defArgs st) (defBody st) (defScope st) .none kV dc pm an cd ct) ⟨[u], []⟩ [("script", u)])
    (F : ∀ (base : Heap), base.Ns mainGlobals mg → Fun K "law" "law" st f (PySem.W.fnOf "law" "law" (defArgs st) (defBody st) (defScope st) .none kV dc pm an cd ct) → FnD l.prog w K mg base k f (PySem.W.fnOf "law" "law" (defArgs st) (defBody st) (defScope st) .none kV dc pm an cd ct) ["script"] lawSp) :
    ∃ fd : FuncData, (∀ (s : Shared) (u : Value), BindsTo s fd ⟨[u], []⟩ [("script", u)]) ∧ ∀ base : Heap, K.In base → base.Ns mainGlobals mg → FnOk l.prog w K mg base (L2.CX l.prog w) k fa fd ["script"] (lawSpV K) := by
  have e := hfa.symm.trans (PySem.W.mg_of X G a)
  cases e
  exact ⟨_, b, fun base _ hb => (F base hb (fun_mk (st := st) lk c kp)).imp fun vs H Q E q => lawSpV_of q⟩
end
theorem walkD {l : PySem.W.OpenLaw} {q : Program} {loose : List Str} {XP : (Str → Option Value) → Heap → Prop} {YP : World → Heap → Prop} {d : DefRec} {K : Params → PySem.W.Frag} {k : Nat} (hn : l.most = some 63) (hdf : d.params.defaults = []) (hr : Room k callerA)
    (hY : ∀ (w : World) (h : Heap), YP w h → (K w.params).In h)
    (F : ∀ (w : World) (mg : Str → Option Value) (fa : Addr) (h : Heap), (K w.params).In h → h.Ns mainGlobals mg → mg d.name = some (.ref fa) →
      ∃ fd : FuncData, (∀ (s : Shared) (u : Value), BindsTo s fd ⟨[u], []⟩ [("script", u)]) ∧ ∀ base : Heap, (K w.params).In base → base.Ns mainGlobals mg → FnOk l.prog w (K w.params) mg base (L2.CX l.prog w) k fa fd ["script"] (lawSpV (K w.params))) :
    PySem.W.WalkO q loose XP YP l.row.toRowW d [] (fun f vs => PySem.call f vs) :=
  L2.walk_ofB (n := 63) (k := k) (x := "script") (CX := fun w => L2.CX l.prog w) (sp := fun w => lawSpV (K w.params)) hn (by decide) hdf hr hY F (fun w H a ns hl hb hO hS => ⟨a, ns, rfl, hO, hS, hl, hb, fun _ => rfl⟩)
    fun w H s e s' ⟨_, _, _, _, _, _, _, _, _, _, _, _, z⟩ => z
end DL
/-! DLi: laws of loops and comprehensions over data -/
namespace DL
open PySem L2
theorem finI {Q : KD} {d : D} {h hs : Hd} (s : Sub hs h) (q : Q d hs) : (fin Q).rt d h := ⟨hs, s, q⟩
theorem finR {Q : KD} {d : D} {h : Hd} (q : Q d h) : (fin Q).rt d h := ⟨h, Sub.refl h, q⟩
theorem finN {Q : KD} {σ : Sd} {h : Hd} (q : Q (.v .non) h) : (fin Q).nx σ h := ⟨h, Sub.refl h, q⟩
theorem finNI {Q : KD} {σ : Sd} {h hs : Hd} (s : Sub hs h) (q : Q (.v .non) hs) : (fin Q).nx σ h := ⟨hs, s, q⟩
theorem al_i {h : Hd} {Q : Addr → Prop} {b : BxA Q} (q : ∀ p, h p = none → Q p) : al h Q b := q
theorem cl_i {sp : SpD} {ds : List D} {h : Hd} {Q : KD} {E : XD → Hd → Prop} {b : BxK Q E} (q : sp ds h Q E) : cl sp ds h Q E b := q
/-- a loop by what stands ahead of each turn -/
theorem loop_of {g : GD} {body : SD} {chk : Hd → Prop} {items : List D} {D : EndsD} {σ : Sd} {h : Hd} (P : Nat → Sd → Hd → Prop) (h0 : P 0 σ h) (hc : ∀ i σ h, i ≤ items.length → P i σ h → chk h)
    (step : ∀ (i : Nat) (x : DL.D) (σ : Sd) (h : Hd), items[i]? = some x → P i σ h → ∀ N : Sd → Hd → Prop, (∀ σ' h', P (i + 1) σ' h' → N σ' h') → g x σ h fun σ2 h2 => body (wL D N) σ2 h2)
    (done : ∀ σ h, P items.length σ h → D.nx σ h) : dLoop g body chk items D σ h := by
  suffices ∀ (k : Nat) (σ : Sd) (h : Hd) (l : List DL.D), l = items.drop k → k ≤ items.length → P k σ h → dLoop g body chk l D σ h from this 0 σ h items rfl (Nat.zero_le _) h0
  intro k σ h l
  induction l generalizing k σ h with
  | nil =>
    intro e hk p
    have hl : k = items.length := by
      have := congrArg List.length e
      rw [List.length_nil, List.length_drop] at this
      omega
    subst hl
    exact ⟨hc _ _ _ (Nat.le_refl _) p, done _ _ p⟩
  | cons x r ih =>
    intro e hk p
    have hlt : k < items.length := by
      have := congrArg List.length e
      rw [List.length_cons, List.length_drop] at this
      omega
    rw [List.drop_eq_getElem_cons hlt] at e
    injection e with e1 e2
    refine ⟨hc _ _ _ hk p, ?_⟩
    exact step k x σ h (by rw [e1]; exact List.getElem?_eq_getElem hlt) p _ fun σ' h' p' => ih (k + 1) σ' h' e2 hlt p'
/-- a comprehension that leaves the heap as it is -/
theorem cmp_of {g : GD} {tt : TD} {te : ED} {chk : Hd → Prop} {items : List D} {σ : Sd} {h : Hd} {Q : List D → Hd → Prop} {b : BxC Q} (f : D → Option D) (hc : chk h) (hl : items.length ≤ 1000000)
    (step : ∀ x, x ∈ items → ∀ (S : D → Hd → Prop) (N : Hd → Prop), (∀ y, f x = some y → S y h) → (f x = none → N h) → g x σ h fun σ2 h2 => tt σ2 h2 fun c h3 => dIte (c = true) (te σ2 h3 S) (N h3) .mk)
    (q : Q (items.filterMap f) h) : cmp g tt te chk items σ h Q b := by
  suffices ∀ (l acc : List D), (∀ x, x ∈ l → x ∈ items) → acc.length + l.length ≤ items.length → Q (acc ++ l.filterMap f) h → dComp g tt te chk l acc σ h Q from this items [] (fun _ h => h) (by simp) (by simpa using q)
  intro l
  induction l with
  | nil => intro acc _ _ q; exact ⟨hc, by simpa using q⟩
  | cons x r ih =>
    intro acc hm hz q
    refine ⟨hc, step x (hm x List.mem_cons_self) _ _ (fun y e => ⟨?_, ?_⟩) fun e => ?_⟩
    · have : items.length < sizeLine := Nat.lt_of_le_of_lt hl (by decide)
      rw [List.length_cons] at hz
      omega
    · refine ih _ (fun z hz => hm z (List.mem_cons_of_mem _ hz)) ?_ ?_
      · rw [List.length_append, List.length_cons] at *
        simp only [List.length_nil, List.length_cons] at *
        omega
      · rw [List.filterMap_cons, e] at q
        simpa using q
    · refine ih _ (fun z hz => hm z (List.mem_cons_of_mem _ hz)) ?_ ?_
      · rw [List.length_cons] at hz
        omega
      · rw [List.filterMap_cons, e] at q
        exact q
/-- .. that makes a value of each item -/
theorem cmp_map {g : GD} {tt : TD} {te : ED} {chk : Hd → Prop} {items : List D} {σ : Sd} {h : Hd} {Q : List D → Hd → Prop} {b : BxC Q} (f : D → D) (hc : chk h) (hl : items.length ≤ 1000000)
    (step : ∀ x, x ∈ items → ∀ (S : D → Hd → Prop) (N : Hd → Prop), S (f x) h → g x σ h fun σ2 h2 => tt σ2 h2 fun c h3 => dIte (c = true) (te σ2 h3 S) (N h3) .mk)
    (q : Q (items.map f) h) : cmp g tt te chk items σ h Q b :=
  cmp_of (fun x => some (f x)) hc hl (fun x hx S N h1 _ => step x hx S N (h1 _ rfl)) (by rw [show (fun x => some (f x)) = some ∘ f from rfl, List.filterMap_eq_map]; exact q)
/-! kinds -/
theorem st_NoneType_int : subTy "NoneType" "int" = false := by decide
theorem st_NoneType_bool : subTy "NoneType" "bool" = false := by decide
theorem st_NoneType_str : subTy "NoneType" "str" = false := by decide
theorem st_NoneType_tuple : subTy "NoneType" "tuple" = false := by decide
theorem st_NoneType_list : subTy "NoneType" "list" = false := by decide
theorem st_NoneType_dict : subTy "NoneType" "dict" = false := by decide
theorem st_bool_int : subTy "bool" "int" = true := by decide
theorem st_bool_bool : subTy "bool" "bool" = true := by decide
theorem st_bool_str : subTy "bool" "str" = false := by decide
theorem st_bool_tuple : subTy "bool" "tuple" = false := by decide
theorem st_bool_list : subTy "bool" "list" = false := by decide
theorem st_bool_dict : subTy "bool" "dict" = false := by decide
theorem st_int_int : subTy "int" "int" = true := by decide
theorem st_int_bool : subTy "int" "bool" = false := by decide
theorem st_int_str : subTy "int" "str" = false := by decide
theorem st_int_tuple : subTy "int" "tuple" = false := by decide
theorem st_int_list : subTy "int" "list" = false := by decide
theorem st_int_dict : subTy "int" "dict" = false := by decide
theorem st_str_int : subTy "str" "int" = false := by decide
theorem st_str_bool : subTy "str" "bool" = false := by decide
theorem st_str_str : subTy "str" "str" = true := by decide
theorem st_str_tuple : subTy "str" "tuple" = false := by decide
theorem st_str_list : subTy "str" "list" = false := by decide
theorem st_str_dict : subTy "str" "dict" = false := by decide
theorem st_tuple_int : subTy "tuple" "int" = false := by decide
theorem st_tuple_bool : subTy "tuple" "bool" = false := by decide
theorem st_tuple_str : subTy "tuple" "str" = false := by decide
theorem st_tuple_tuple : subTy "tuple" "tuple" = true := by decide
theorem st_tuple_list : subTy "tuple" "list" = false := by decide
theorem st_tuple_dict : subTy "tuple" "dict" = false := by decide
theorem st_list_int : subTy "list" "int" = false := by decide
theorem st_list_bool : subTy "list" "bool" = false := by decide
theorem st_list_str : subTy "list" "str" = false := by decide
theorem st_list_tuple : subTy "list" "tuple" = false := by decide
theorem st_list_list : subTy "list" "list" = true := by decide
theorem st_list_dict : subTy "list" "dict" = false := by decide
theorem st_dict_int : subTy "dict" "int" = false := by decide
theorem st_dict_bool : subTy "dict" "bool" = false := by decide
theorem st_dict_str : subTy "dict" "str" = false := by decide
theorem st_dict_tuple : subTy "dict" "tuple" = false := by decide
theorem st_dict_list : subTy "dict" "list" = false := by decide
theorem st_dict_dict : subTy "dict" "dict" = true := by decide
theorem tk_int : tyKnown "int" = true := by decide
theorem tk_bool : tyKnown "bool" = true := by decide
theorem tk_str : tyKnown "str" = true := by decide
theorem tk_tuple : tyKnown "tuple" = true := by decide
theorem tk_list : tyKnown "list" = true := by decide
theorem tk_dict : tyKnown "dict" = true := by decide
end DL
/-! DLs: the steps of readings as equations (no match is left in a goal) -/
namespace DL
open PySem L2
/-! ### what a step asks of what it got -/
def mO {α : Type} (o : Option α) (k : α → Prop) : Prop := match o with
  | some a => k a
  | none => False
theorem mO_some {α : Type} {a : α} {k : α → Prop} : mO (some a) k = k a := rfl
def mBl (d : D) (k : Bool → Prop) : Prop := match d with
  | .v (.bl b) => k b
  | _ => False
theorem mBl_bl {b : Bool} {k : Bool → Prop} : mBl (.v (.bl b)) k = k b := rfl
def mInt (d : D) (k : Int → Prop) : Prop := match d with
  | .v (.int b) => k b
  | _ => False
theorem mInt_int {b : Int} {k : Int → Prop} : mInt (.v (.int b)) k = k b := rfl
def mT (d : D) (k : List D → Prop) : Prop := match d with
  | .t b => k b
  | _ => False
theorem mT_t {b : List D} {k : List D → Prop} : mT (.t b) k = k b := rfl
def mS (d : D) (k : Str → Prop) : Prop := match d with
  | .v (.str b) => k b
  | _ => False
theorem mS_s {b : Str} {k : Str → Prop} : mS (.v (.str b)) k = k b := rfl
section
variable {σ : Sd} {h : Hd} {Q : KD}
theorem dVar_s {i : Nat} : dVar i σ h Q = mO (gS σ i) fun d => Q d h := by
  unfold dVar
  cases gS σ i <;> rfl
theorem dTest_s {t : ED} {Q : Bool → Hd → Prop} : dTest t σ h Q = t σ h fun d h1 => mBl d fun k => Q k h1 := by
  unfold dTest mBl
  rfl
theorem d3_s {r r' : R2d} {ta tb tc : ED} : d3 r r' ta tb tc σ h Q = ta σ h fun x h1 => tb σ h1 fun y h2 => r x y h2 fun z h3 => mBl z fun k => dIte (k = true) (tc σ h3 fun w h4 => r' y w h4 Q) (Q (.v (.bl false)) h3) .mk := by
  unfold d3 mBl
  rfl
theorem dAndV_s {ta tb : ED} : dAndV ta tb σ h Q = ta σ h fun d h1 => mBl d fun k => dIte (k = true) (tb σ h1 Q) (Q (.v (.bl false)) h1) .mk := by
  unfold dAndV mBl
  rfl
theorem dOrV_s {ta tb : ED} : dOrV ta tb σ h Q = ta σ h fun d h1 => mBl d fun k => dIte (k = true) (Q (.v (.bl true)) h1) (tb σ h1 Q) .mk := by
  unfold dOrV mBl
  rfl
theorem dNotV_s {ta : ED} : dNotV ta σ h Q = ta σ h fun d h1 => mBl d fun k => Q (.v (.bl (!k))) h1 := by
  unfold dNotV mBl
  rfl
theorem nilG_s {Q : Sd → Hd → Prop} : nilG [] σ h Q = Q σ h := rfl
theorem consG_s {t : GD} {u : GDs} {d : D} {r : List D} {Q : Sd → Hd → Prop} : consG t u (d :: r) σ h Q = t d σ h fun σ' h' => u r σ' h' Q := rfl
theorem tupG_s {n : Nat} {g : GDs} {ds : List D} {Q : Sd → Hd → Prop} : tupG n g (.t ds) σ h Q = (ds.length = n ∧ g ds σ h Q) := rfl
/-! ### walks -/
theorem rdL_l {a : Addr} {xs : List D} (e : h a = some (.lst xs)) : rdL h a = some xs := by unfold rdL; rw [e]
abbrev RD := List D → (Hd → Prop) → Hd → Prop
def iO (o : Option O) (a : Addr) (h : Hd) (R : RD) : Prop := match o with
  | some (.lst xs) => R xs (fun h' => rdL h' a = some xs) h
  | _ => False
theorem iO_s {a : Addr} {xs : List D} {R : RD} : iO (some (.lst xs)) a h R = R xs (fun h' => rdL h' a = some xs) h := rfl
def iAnyX (d : D) (h : Hd) (R : RD) : Prop := match d with
  | .t ds => R ds (fun _ => True) h
  | .k ds => R ds (fun _ => True) h
  | .v (.str z) => R (chars z) (fun _ => True) h
  | .v (.ref a) => iO (h a) a h R
  | _ => False
theorem iAnyX_t {ds : List D} {R : RD} : iAnyX (.t ds) h R = R ds (fun _ => True) h := rfl
theorem iAnyX_k {ds : List D} {R : RD} : iAnyX (.k ds) h R = R ds (fun _ => True) h := rfl
theorem iAnyX_s {z : Str} {R : RD} : iAnyX (.v (.str z)) h R = R (chars z) (fun _ => True) h := rfl
theorem iAnyX_r {a : Addr} {R : RD} : iAnyX (.v (.ref a)) h R = iO (h a) a h R := rfl
theorem iAnyD_s {te : ED} {R : RD} : iAnyD te σ h R = te σ h fun d h1 => iAnyX d h1 R := by
  unfold iAnyD
  congr 1
  funext d h1
  cases d with
  | t => rfl
  | k => rfl
  | v x =>
    cases x with
    | ref a =>
      show (match rdL h1 a with
        | some xs => R xs (fun h' => rdL h' a = some xs) h1
        | none => False) = iO (h1 a) a h1 R
      cases e : h1 a with
      | none =>
        rw [show rdL h1 a = none by unfold rdL; rw [e]]
        rfl
      | some o =>
        cases o with
        | lst xs => rw [rdL_l e]; rfl
        | _ =>
          rw [show rdL h1 a = none by unfold rdL; rw [e]]
          rfl
    | _ => rfl
def rng1 (ds : List D) (h : Hd) (R : RD) : Prop := match ds with
  | [.v (.int j)] => (-4611686018427387904 ≤ j ∧ j < 4611686018427387904) ∧ R (rangeD 0 j.toNat) (fun _ => True) h
  | _ => False
def rng2 (ds : List D) (h : Hd) (R : RD) : Prop := match ds with
  | [.v (.int i), .v (.int j)] => (-4611686018427387904 ≤ i ∧ i < 4611686018427387904 ∧ -4611686018427387904 ≤ j ∧ j < 4611686018427387904) ∧ R (rangeD i (j - i).toNat) (fun _ => True) h
  | _ => False
theorem rng1_s {j : Int} {R : RD} : rng1 [.v (.int j)] h R = ((-4611686018427387904 ≤ j ∧ j < 4611686018427387904) ∧ R (rangeD 0 j.toNat) (fun _ => True) h) := rfl
theorem rng2_s {i j : Int} {R : RD} : rng2 [.v (.int i), .v (.int j)] h R = ((-4611686018427387904 ≤ i ∧ i < 4611686018427387904 ∧ -4611686018427387904 ≤ j ∧ j < 4611686018427387904) ∧ R (rangeD i (j - i).toNat) (fun _ => True) h) := rfl
theorem iRng1D_s {ta : AD} {R : RD} : iRng1D ta σ h R = ta σ h fun ds h1 => rng1 ds h1 R := by unfold iRng1D rng1; rfl
theorem iRng2D_s {ta : AD} {R : RD} : iRng2D ta σ h R = ta σ h fun ds h1 => rng2 ds h1 R := by unfold iRng2D rng2; rfl
/-! ### operators -/
section
variable {i j : Int} {a b : Str} {xs ys : List D} {x y : D} {p q : Addr}
theorem pAdd_i : pAdd (.v (.int i)) (.v (.int j)) h Q = Q (.v (.int (i + j))) h := rfl
theorem pAdd_s : pAdd (.v (.str a)) (.v (.str b)) h Q = (a.length + b.length ≤ sizeLine ∧ Q (.v (.str (a ++ b))) h) := rfl
theorem pAdd_t : pAdd (.t xs) (.t ys) h Q = (xs.length + ys.length ≤ sizeLine ∧ Q (.t (xs ++ ys)) h) := rfl
def addO (o u : Option O) (h : Hd) (Q : KD) : Prop := match o, u with
  | some (.lst xs), some (.lst ys) => xs.length + ys.length ≤ sizeLine ∧ al h (fun p => Q (.v (.ref p)) (put h p (.lst (xs ++ ys)))) .mk
  | _, _ => False
theorem addO_s : addO (some (.lst xs)) (some (.lst ys)) h Q = (xs.length + ys.length ≤ sizeLine ∧ al h (fun p => Q (.v (.ref p)) (put h p (.lst (xs ++ ys)))) .mk) := rfl
theorem pAdd_l : pAdd (.v (.ref p)) (.v (.ref q)) h Q = addO (h p) (h q) h Q := by
  unfold pAdd addO
  rfl
theorem pSub_i : pSub (.v (.int i)) (.v (.int j)) h Q = Q (.v (.int (i - j))) h := rfl
theorem pMul_i : pMul (.v (.int i)) (.v (.int j)) h Q = (mulOk i j ∧ Q (.v (.int (i * j))) h) := rfl
theorem pFdv_i : pFdv (.v (.int i)) (.v (.int j)) h Q = (divOk j ∧ Q (.v (.int (i / j))) h) := rfl
theorem pMod_i : pMod (.v (.int i)) (.v (.int j)) h Q = (0 < j ∧ Q (.v (.int (i % j))) h) := rfl
theorem pPow_i : pPow (.v (.int i)) (.v (.int j)) h Q = (powOk i j ∧ Q (.v (.int (i ^ j.toNat))) h) := rfl
theorem pLt_i : pLt (.v (.int i)) (.v (.int j)) h Q = Q (.v (.bl (decide (i < j)))) h := rfl
theorem pLe_i : pLe (.v (.int i)) (.v (.int j)) h Q = Q (.v (.bl (decide (i ≤ j)))) h := rfl
theorem pGt_i : pGt (.v (.int i)) (.v (.int j)) h Q = Q (.v (.bl (decide (j < i)))) h := rfl
theorem pGe_i : pGe (.v (.int i)) (.v (.int j)) h Q = Q (.v (.bl (decide (j ≤ i)))) h := rfl
theorem pLt_s : pLt (.v (.str a)) (.v (.str b)) h Q = Q (.v (.bl (strLt a b))) h := rfl
theorem pLe_s : pLe (.v (.str a)) (.v (.str b)) h Q = Q (.v (.bl (!strLt b a))) h := rfl
theorem pGt_s : pGt (.v (.str a)) (.v (.str b)) h Q = Q (.v (.bl (strLt b a))) h := rfl
theorem pGe_s : pGe (.v (.str a)) (.v (.str b)) h Q = Q (.v (.bl (!strLt a b))) h := rfl
theorem pEq_i : pEq (.v (.int i)) (.v (.int j)) h Q = Q (.v (.bl (decide (i = j)))) h := rfl
theorem pEq_s : pEq (.v (.str a)) (.v (.str b)) h Q = Q (.v (.bl (decide (a = b)))) h := rfl
theorem pEq_t : pEq (.t xs) y h Q = ((plD 50 (.t xs) && plD 50 y) = true ∧ Q (.v (.bl (eqD (.t xs) y))) h) := by unfold pEq; rfl
theorem pEq_non : pEq (.v .non) y h Q = ((plD 50 (.v .non) && plD 50 y) = true ∧ Q (.v (.bl (eqD (.v .non) y))) h) := by unfold pEq; rfl
theorem pEq_bl {k : Bool} : pEq (.v (.bl k)) y h Q = ((plD 50 (.v (.bl k)) && plD 50 y) = true ∧ Q (.v (.bl (eqD (.v (.bl k)) y))) h) := by unfold pEq; rfl
theorem pNe_i : pNe (.v (.int i)) (.v (.int j)) h Q = Q (.v (.bl (!decide (i = j)))) h := rfl
theorem pNe_s : pNe (.v (.str a)) (.v (.str b)) h Q = Q (.v (.bl (!decide (a = b)))) h := rfl
theorem pNe_t : pNe (.t xs) y h Q = ((plD 50 (.t xs) && plD 50 y) = true ∧ Q (.v (.bl (!eqD (.t xs) y))) h) := by unfold pNe; rfl
theorem pNe_non : pNe (.v .non) y h Q = ((plD 50 (.v .non) && plD 50 y) = true ∧ Q (.v (.bl (!eqD (.v .non) y))) h) := by unfold pNe; rfl
theorem pNe_bl {k : Bool} : pNe (.v (.bl k)) y h Q = ((plD 50 (.v (.bl k)) && plD 50 y) = true ∧ Q (.v (.bl (!eqD (.v (.bl k)) y))) h) := by unfold pNe; rfl
/-! ### subscripts -/
def itO (o : Option O) (y : D) (h : Hd) (Q : KD) : Prop := match o with
  | some (.lst xs) => mInt y fun i => mO (atI xs i) fun d => Q d h
  | some (.dk kvs) => mO (keyD y) fun k => mO (valD kvs k) fun d => Q d h
  | _ => False
theorem itO_l : itO (some (.lst xs)) (.v (.int i)) h Q = mO (atI xs i) fun d => Q d h := rfl
theorem itO_d {kvs : List (Key × D)} : itO (some (.dk kvs)) y h Q = mO (keyD y) fun k => mO (valD kvs k) fun d => Q d h := rfl
theorem pIt_t : pIt (.t xs) (.v (.int i)) h Q = mO (atI xs i) fun d => Q d h := by
  show (match atI xs i with
    | some d => Q (d) h
    | none => False) = _
  cases atI xs i <;> rfl
theorem pIt_k : pIt (.k xs) (.v (.int i)) h Q = mO (atI xs i) fun d => Q d h := by
  show (match atI xs i with
    | some d => Q (d) h
    | none => False) = _
  cases atI xs i <;> rfl
theorem pIt_s : pIt (.v (.str a)) (.v (.int i)) h Q = (a.length ≤ sizeLine ∧ mO (atI a.cps.toList i) fun c => Q (.v (.str ⟨#[c]⟩)) h) := by
  show (a.length ≤ sizeLine ∧ (match atI a.cps.toList i with
    | some c => Q (.v (.str ⟨#[c]⟩)) h
    | none => False)) = _
  cases atI a.cps.toList i <;> rfl
theorem pIt_r : pIt (.v (.ref p)) y h Q = itO (h p) y h Q := by
  show (match h p with
    | some (.dk kvs) => (match keyD y with
      | some k => (match valD kvs k with
        | some d => Q d h
        | none => False)
      | none => False)
    | _ => pIx (.v (.ref p)) y h Q) = _
  cases e : h p with
  | none =>
    show pIx (.v (.ref p)) y h Q = False
    cases y with
    | v y =>
      cases y with
      | int =>
        show (match rdL h p with
          | some xs => _
          | none => False) = False
        unfold rdL
        rw [e]
      | _ => rfl
    | _ => rfl
  | some o =>
    cases o with
    | dk kvs =>
      show (match keyD y with
      | some k => (match valD kvs k with
        | some d => Q d h
        | none => False)
      | none => False) = mO (keyD y) fun k => mO (valD kvs k) fun d => Q d h
      cases keyD y with
      | none => rfl
      | some k =>
        show (match valD kvs k with
        | some d => Q d h
        | none => False) = mO (valD kvs k) fun d => Q d h
        cases valD kvs k <;> rfl
    | lst xs =>
      show pIx (.v (.ref p)) y h Q = mInt y fun i => mO (atI xs i) fun d => Q d h
      cases y with
      | v y =>
        cases y with
        | int i =>
          show (match rdL h p with
            | some xs => (match atI xs i with
              | some d => Q d h
              | none => False)
            | none => False) = mO (atI xs i) fun d => Q d h
          rw [rdL_l e]
          show (match atI xs i with
              | some d => Q d h
              | none => False) = mO (atI xs i) fun d => Q d h
          cases atI xs i <;> rfl
        | _ => rfl
      | _ => rfl
    | _ =>
      show pIx (.v (.ref p)) y h Q = False
      cases y with
      | v y =>
        cases y with
        | int i =>
          show (match rdL h p with
            | some xs => _
            | none => False) = False
          unfold rdL
          rw [e]
        | _ => rfl
      | _ => rfl
theorem pNeg_i : pNeg (.v (.int i)) h Q = Q (.v (.int (-i))) h := rfl
theorem pIs_n : pIs x (.v .non) h Q = Q (.v (.bl (isN x))) h := rfl
theorem pIsNot_n : pIsNot x (.v .non) h Q = Q (.v (.bl (!isN x))) h := rfl
theorem isN_non : isN (.v .non) = true := rfl
theorem isN_int : isN (.v (.int i)) = false := rfl
theorem isN_bl {k : Bool} : isN (.v (.bl k)) = false := rfl
theorem isN_str : isN (.v (.str a)) = false := rfl
theorem isN_t : isN (.t xs) = false := rfl
theorem isN_ref : isN (.v (.ref p)) = false := rfl
/-! ### membership -/
def memO (o : Option O) (neg : Bool) (x : D) (h : Hd) (Q : KD) : Prop := match o with
  | some (.lst ds) => flatD x = true ∧ ds.all flatD = true ∧ Q (.v (.bl (if neg then !inL x ds else inL x ds))) h
  | some (.dk kvs) => mO (keyD x) fun k => Q (.v (.bl (if neg then !(valD kvs k).isSome else (valD kvs k).isSome))) h
  | _ => False
theorem memO_l {neg : Bool} : memO (some (.lst xs)) neg x h Q = (flatD x = true ∧ xs.all flatD = true ∧ Q (.v (.bl (if neg then !inL x xs else inL x xs))) h) := rfl
theorem memO_d {neg : Bool} {kvs : List (Key × D)} : memO (some (.dk kvs)) neg x h Q = mO (keyD x) fun k => Q (.v (.bl (if neg then !(valD kvs k).isSome else (valD kvs k).isSome))) h := rfl
theorem pMemB_t {neg : Bool} : pMemB neg x (.t xs) h Q = (flatD x = true ∧ xs.all flatD = true ∧ Q (.v (.bl (if neg then !inL x xs else inL x xs))) h) := rfl
theorem pMemB_s {neg : Bool} : pMemB neg (.v (.str a)) (.v (.str b)) h Q = Q (.v (.bl (if neg then !strIn a b else strIn a b))) h := rfl
theorem pMemB_r {neg : Bool} : pMemB neg x (.v (.ref p)) h Q = memO (h p) neg x h Q := by
  show (match h p with
    | some (.dk kvs) => (match keyD x with
      | some k => Q (.v (.bl (if neg then !(valD kvs k).isSome else (valD kvs k).isSome))) h
      | none => False)
    | _ => (match rdL h p with
      | some ds => flatD x = true ∧ ds.all flatD = true ∧ Q (.v (.bl (if neg then !inL x ds else inL x ds))) h
      | none => False)) = memO (h p) neg x h Q
  cases e : h p with
  | none =>
    show (match rdL h p with
      | some ds => flatD x = true ∧ ds.all flatD = true ∧ Q (.v (.bl (if neg then !inL x ds else inL x ds))) h
      | none => False) = _
    rw [show rdL h p = none by unfold rdL; rw [e]]
    rfl
  | some o =>
    cases o with
    | dk kvs =>
      show (match keyD x with
      | some k => Q (.v (.bl (if neg then !(valD kvs k).isSome else (valD kvs k).isSome))) h
      | none => False) = mO (keyD x) fun k => Q (.v (.bl (if neg then !(valD kvs k).isSome else (valD kvs k).isSome))) h
      cases keyD x <;> rfl
    | lst xs =>
      show (match rdL h p with
        | some ds => flatD x = true ∧ ds.all flatD = true ∧ Q (.v (.bl (if neg then !inL x ds else inL x ds))) h
        | none => False) = _
      rw [rdL_l e]
      rfl
    | _ =>
      show (match rdL h p with
        | some ds => flatD x = true ∧ ds.all flatD = true ∧ Q (.v (.bl (if neg then !inL x ds else inL x ds))) h
        | none => False) = _
      rw [show rdL h p = none by unfold rdL; rw [e]]
      rfl
/-! ### slices -/
theorem dPart_s {t : ED} {Q : Option Int → Hd → Prop} : dPart t σ h Q = t σ h fun d h1 => mInt d fun i => Q (some i) h1 := by
  unfold dPart mInt
  rfl
def slO (o : Option O) (lo hi : Option Int) (h : Hd) (Q : KD) : Prop := match o with
  | some (.lst xs) => al h (fun p => Q (.v (.ref p)) (put h p (.lst (cutD xs lo hi)))) .mk
  | _ => False
section
variable {lo hi : Option Int}
theorem slO_l : slO (some (.lst xs)) lo hi h Q = al h (fun p => Q (.v (.ref p)) (put h p (.lst (cutD xs lo hi)))) .mk := rfl
theorem pSl_t : pSl (.t xs) lo hi h Q = Q (.t (cutD xs lo hi)) h := rfl
theorem pSl_k : pSl (.k xs) lo hi h Q = al h (fun p => Q (.v (.ref p)) (put h p (.lst (cutD xs lo hi)))) .mk := rfl
theorem pSl_s : pSl (.v (.str a)) lo hi h Q = (a.length ≤ sizeLine ∧ Q (.v (.str (cutS a lo hi))) h) := rfl
theorem pSl_r : pSl (.v (.ref p)) lo hi h Q = slO (h p) lo hi h Q := by
  show (match rdL h p with
    | some xs => al h (fun p => Q (.v (.ref p)) (put h p (.lst (cutD xs lo hi)))) .mk
    | none => False) = _
  unfold rdL
  cases h p with
  | none => rfl
  | some o => cases o <;> rfl
end
/-! ### built-ins -/
theorem cInt_i : cInt [.v (.int i)] h Q = Q (.v (.int i)) h := rfl
theorem cInt_b {k : Bool} : cInt [.v (.bl k)] h Q = Q (.v (.int (if k then 1 else 0))) h := rfl
theorem cAbs_i : cAbs [.v (.int i)] h Q = Q (.v (.int (if i < 0 then -i else i))) h := rfl
def lenO (o : Option O) (h : Hd) (Q : KD) : Prop := match o with
  | some (.lst xs) => Q (.v (.int (xs.length : Int))) h
  | some (.dk kvs) => Q (.v (.int (kvs.length : Int))) h
  | _ => False
theorem lenO_l : lenO (some (.lst xs)) h Q = Q (.v (.int (xs.length : Int))) h := rfl
theorem lenO_d {kvs : List (Key × D)} : lenO (some (.dk kvs)) h Q = Q (.v (.int (kvs.length : Int))) h := rfl
theorem cLen_t : cLen [.t xs] h Q = Q (.v (.int (xs.length : Int))) h := rfl
theorem cLen_k : cLen [.k xs] h Q = Q (.v (.int (xs.length : Int))) h := rfl
theorem cLen_s : cLen [.v (.str a)] h Q = (a.length ≤ sizeLine ∧ Q (.v (.int (a.length : Int))) h) := rfl
theorem cLen_r : cLen [.v (.ref p)] h Q = lenO (h p) h Q := by
  show (match rdL h p with
    | some xs => Q (.v (.int (xs.length : Int))) h
    | none => match h p with
      | some (.dk kvs) => Q (.v (.int (kvs.length : Int))) h
      | _ => False) = _
  unfold rdL
  cases h p with
  | none => rfl
  | some o => cases o <;> rfl
def tupO (o : Option O) (h : Hd) (Q : KD) : Prop := match o with
  | some (.lst xs) => Q (.t xs) h
  | _ => False
theorem tupO_l : tupO (some (.lst xs)) h Q = Q (.t xs) h := rfl
theorem cTuple_t : cTuple [.t xs] h Q = Q (.t xs) h := rfl
theorem cTuple_r : cTuple [.v (.ref p)] h Q = tupO (h p) h Q := by
  show (match rdL h p with
    | some xs => Q (.t xs) h
    | none => False) = _
  unfold rdL
  cases h p with
  | none => rfl
  | some o => cases o <;> rfl
def lstO (o : Option O) (h : Hd) (Q : KD) : Prop := match o with
  | some (.lst xs) => al h (fun p => Q (.v (.ref p)) (put h p (.lst xs))) .mk
  | _ => False
theorem lstO_l : lstO (some (.lst xs)) h Q = al h (fun p => Q (.v (.ref p)) (put h p (.lst xs))) .mk := rfl
theorem cList_t : cList [.t xs] h Q = al h (fun p => Q (.v (.ref p)) (put h p (.lst xs))) .mk := rfl
theorem cList_s : cList [.v (.str a)] h Q = (a.length ≤ sizeLine ∧ al h (fun p => Q (.v (.ref p)) (put h p (.lst (chars a)))) .mk) := rfl
theorem cList_r : cList [.v (.ref p)] h Q = lstO (h p) h Q := by
  show (match rdL h p with
    | some xs => al h (fun p => Q (.v (.ref p)) (put h p (.lst xs))) .mk
    | none => False) = _
  unfold rdL
  cases h p with
  | none => rfl
  | some o => cases o <;> rfl
theorem cIsi_s {n : String} : cIsi [x, .v (.ty n)] h Q = mO (tyName x h) fun m => tyKnown n = true ∧ Q (.v (.bl (subTy m n))) h := by
  show (match tyName x h with
    | some m => tyKnown n = true ∧ Q (.v (.bl (subTy m n))) h
    | none => False) = _
  cases tyName x h <;> rfl
def tyO (o : Option O) : Option String := match o with
  | some (.lst _) => some "list"
  | some (.dk _) => some "dict"
  | some (.dt _) => some "dict"
  | _ => none
theorem tyO_l : tyO (some (.lst xs)) = some "list" := rfl
theorem tyO_d {kvs : List (Key × D)} : tyO (some (.dk kvs)) = some "dict" := rfl
theorem ty_non : tyName (.v .non) h = some "NoneType" := rfl
theorem ty_bl {k : Bool} : tyName (.v (.bl k)) h = some "bool" := rfl
theorem ty_int : tyName (.v (.int i)) h = some "int" := rfl
theorem ty_str : tyName (.v (.str a)) h = some "str" := rfl
theorem ty_t : tyName (.t xs) h = some "tuple" := rfl
theorem ty_r : tyName (.v (.ref p)) h = tyO (h p) := rfl
/-! ### methods, stores -/
def tymO (T : String) (o : Option O) : Prop := match o with
  | some (.lst _) => T = "list"
  | some (.dk _) => T = "dict"
  | some (.dt _) => T = "dict"
  | _ => False
theorem tymO_l : tymO "list" (some (.lst xs)) = True := eq_true rfl
theorem tymO_d {kvs : List (Key × D)} : tymO "dict" (some (.dk kvs)) = True := eq_true rfl
theorem tyM_s : tyM "str" (.v (.str a)) h = True := eq_true rfl
theorem tyM_r {T : String} : tyM T (.v (.ref p)) h = tymO T (h p) := rfl
def appO (o : Option O) (p : Addr) (y : D) (h : Hd) (Q : KD) : Prop := match o with
  | some (.lst xs) => xs.length < sizeLine ∧ Q (.v .non) (put h p (.lst (xs ++ [y])))
  | _ => False
theorem appO_l {y : D} : appO (some (.lst xs)) p y h Q = (xs.length < sizeLine ∧ Q (.v .non) (put h p (.lst (xs ++ [y])))) := rfl
theorem mAppend_s {y : D} : mAppend (.v (.ref p)) [y] h Q = appO (h p) p y h Q := rfl
def popO (o : Option O) (p : Addr) (h : Hd) (Q : KD) : Prop := match o with
  | some (.lst xs) => mO xs[xs.length - 1]? fun y => Q y (put h p (.lst xs.dropLast))
  | _ => False
theorem popO_l : popO (some (.lst xs)) p h Q = mO xs[xs.length - 1]? fun y => Q y (put h p (.lst xs.dropLast)) := rfl
theorem mPop_s : mPop (.v (.ref p)) [] h Q = popO (h p) p h Q := by
  show (match h p with
    | some (.lst xs) => (match xs[xs.length - 1]? with
      | some y => Q y (put h p (.lst xs.dropLast))
      | none => False)
    | _ => False) = _
  cases h p with
  | none => rfl
  | some o =>
    cases o with
    | lst xs =>
      show (match xs[xs.length - 1]? with
      | some y => Q y (put h p (.lst xs.dropLast))
      | none => False) = mO xs[xs.length - 1]? fun y => Q y (put h p (.lst xs.dropLast))
      cases xs[xs.length - 1]? <;> rfl
    | _ => rfl
def revO (o : Option O) (p : Addr) (h : Hd) (Q : KD) : Prop := match o with
  | some (.lst xs) => Q (.v .non) (put h p (.lst xs.reverse))
  | _ => False
theorem revO_l : revO (some (.lst xs)) p h Q = Q (.v .non) (put h p (.lst xs.reverse)) := rfl
theorem mRev_s : mRev (.v (.ref p)) [] h Q = revO (h p) p h Q := rfl
def joinX (a : Str) (o : Option (List Str)) (h : Hd) (Q : KD) : Prop := match o with
  | some ys => (ys.map Str.length).sum + ys.length * a.length ≤ 16777216 ∧ Q (.v (.str (Txt.join a ys))) h
  | none => False
theorem joinX_s {ys : List Str} : joinX a (some ys) h Q = ((ys.map Str.length).sum + ys.length * a.length ≤ 16777216 ∧ Q (.v (.str (Txt.join a ys))) h) := rfl
def joinO (a : Str) (o : Option O) (h : Hd) (Q : KD) : Prop := match o with
  | some (.lst xs) => joinX a (strsD xs) h Q
  | _ => False
theorem joinO_l : joinO a (some (.lst xs)) h Q = joinX a (strsD xs) h Q := rfl
theorem mJoin_t : mJoin (.v (.str a)) [.t xs] h Q = joinX a (strsD xs) h Q := by
  show (match strsD xs with
    | some ys => (ys.map Str.length).sum + ys.length * a.length ≤ 16777216 ∧ Q (.v (.str (Txt.join a ys))) h
    | none => False) = _
  cases strsD xs <;> rfl
theorem mJoin_r : mJoin (.v (.str a)) [.v (.ref p)] h Q = joinO a (h p) h Q := by
  show (match rdL h p with
    | some xs => (match strsD xs with
      | some ys => (ys.map Str.length).sum + ys.length * a.length ≤ 16777216 ∧ Q (.v (.str (Txt.join a ys))) h
      | none => False)
    | none => False) = _
  unfold rdL
  cases h p with
  | none => rfl
  | some o =>
    cases o with
    | lst xs =>
      show (match strsD xs with
      | some ys => (ys.map Str.length).sum + ys.length * a.length ≤ 16777216 ∧ Q (.v (.str (Txt.join a ys))) h
      | none => False) = joinX a (strsD xs) h Q
      cases strsD xs <;> rfl
    | _ => rfl
def setO (o : Option O) (p : Addr) (i v : D) (h : Hd) (Q : Hd → Prop) : Prop := match o with
  | some (.lst xs) => mInt i fun k => mO (ixN xs.length k) fun j => Q (put h p (.lst (xs.set j v)))
  | some (.dk kvs) => mO (keyD i) fun k => kvs.length < sizeLine ∧ Q (put h p (.dk (putD kvs k v)))
  | _ => False
theorem setO_l {v : D} {Q : Hd → Prop} : setO (some (.lst xs)) p (.v (.int i)) v h Q = mO (ixN xs.length i) fun j => Q (put h p (.lst (xs.set j v))) := rfl
theorem setO_d {kvs : List (Key × D)} {v : D} {Q : Hd → Prop} : setO (some (.dk kvs)) p x v h Q = mO (keyD x) fun k => kvs.length < sizeLine ∧ Q (put h p (.dk (putD kvs k v))) := rfl
theorem setK_r {v : D} {Q : Hd → Prop} : setK (.v (.ref p)) x v h Q = setO (h p) p x v h Q := by
  show (match h p with
    | some (.dk kvs) => (match keyD x with
      | some k => kvs.length < sizeLine ∧ Q (put h p (.dk (putD kvs k v)))
      | none => False)
    | _ => setL (.v (.ref p)) x v h Q) = _
  have hL : setL (.v (.ref p)) x v h Q = (match h p with
    | some (.lst xs) => mInt x fun k => mO (ixN xs.length k) fun j => Q (put h p (.lst (xs.set j v)))
    | _ => False) := by
    cases x with
    | v x =>
      cases x with
      | int k =>
        show (match h p with
          | some (.lst xs) => (match ixN xs.length k with
            | some j => Q (put h p (.lst (xs.set j v)))
            | none => False)
          | _ => False) = _
        cases h p with
        | none => rfl
        | some o =>
          cases o with
          | lst xs =>
            show (match ixN xs.length k with
            | some j => Q (put h p (.lst (xs.set j v)))
            | none => False) = mO (ixN xs.length k) fun j => Q (put h p (.lst (xs.set j v)))
            cases ixN xs.length k <;> rfl
          | _ => rfl
      | _ =>
        show False = _
        cases h p with
        | none => rfl
        | some o => cases o <;> rfl
    | _ =>
      show False = _
      cases h p with
      | none => rfl
      | some o => cases o <;> rfl
  rw [hL]
  cases h p with
  | none => rfl
  | some o =>
    cases o with
    | dk kvs =>
      show (match keyD x with
      | some k => kvs.length < sizeLine ∧ Q (put h p (.dk (putD kvs k v)))
      | none => False) = mO (keyD x) fun k => kvs.length < sizeLine ∧ Q (put h p (.dk (putD kvs k v)))
      cases keyD x <;> rfl
    | _ => rfl
/-! ### dicts -/
def kdX (kvs : List (Str × D)) (y : D) (h : Hd) (Q : KD) : Prop := match y with
  | .v (.str z) => mO (lkS kvs z) fun d => Q d h
  | _ => False
theorem kdX_s {kvs : List (Str × D)} : kdX kvs (.v (.str a)) h Q = mO (lkS kvs a) fun d => Q d h := rfl
theorem dKd_s {kvs : List (Str × D)} {tb : ED} : dKd kvs tb σ h Q = tb σ h fun y h1 => kdX kvs y h1 Q := by
  unfold dKd
  congr 1
  funext y h1
  cases y with
  | v y =>
    cases y with
    | str z =>
      show (match lkS kvs z with
        | some d => Q d h1
        | none => False) = mO (lkS kvs z) fun d => Q d h1
      cases lkS kvs z <;> rfl
    | _ => rfl
  | _ => rfl
theorem keyD_s : keyD (.v (.str a)) = some (.inr a) := rfl
theorem keyD_i : keyD (.v (.int i)) = some (.inl i) := rfl
theorem dPairs_n {Q : List (Key × D) → Hd → Prop} : dPairs [] σ h Q = Q [] h := rfl
theorem dPairs_c {k v : ED} {r : List (ED × ED)} {Q : List (Key × D) → Hd → Prop} : dPairs ((k, v) :: r) σ h Q = k σ h fun x h1 => v σ h1 fun y h2 => mO (keyD x) fun key => dPairs r σ h2 fun ps h3 => Q ((key, y) :: ps) h3 := by
  show (k σ h fun x h1 => v σ h1 fun y h2 => match keyD x with
    | some key => dPairs r σ h2 fun ps h3 => Q ((key, y) :: ps) h3
    | none => False) = _
  congr 1
  funext x h1
  congr 1
  funext y h2
  cases keyD x <;> rfl
end
end
/-! places of a written list -/
section
variable {α : Type} {a b c d e f g k : α} {l : List α}
theorem at_0 : atI (a :: l) 0 = some a := atI_nat (j := 0) rfl
theorem at_1 : atI (a :: b :: l) 1 = some b := atI_nat (j := 1) rfl
theorem at_2 : atI (a :: b :: c :: l) 2 = some c := atI_nat (j := 2) rfl
theorem at_3 : atI (a :: b :: c :: d :: l) 3 = some d := atI_nat (j := 3) rfl
theorem at_4 : atI (a :: b :: c :: d :: e :: l) 4 = some e := atI_nat (j := 4) rfl
theorem at_5 : atI (a :: b :: c :: d :: e :: f :: l) 5 = some f := atI_nat (j := 5) rfl
theorem at_6 : atI (a :: b :: c :: d :: e :: f :: g :: l) 6 = some g := atI_nat (j := 6) rfl
theorem at_7 : atI (a :: b :: c :: d :: e :: f :: g :: k :: l) 7 = some k := atI_nat (j := 7) rfl
theorem at_m1 : atI (l ++ [a]) (-1) = some a := atI_last l a
theorem ixN_n {n j : Nat} (hj : j < n) : ixN n (j : Int) = some j := by
  unfold ixN
  rw [if_pos (by omega), if_pos (by omega)]
  simp
theorem ix_0 : ixN (a :: l).length 0 = some 0 := ixN_n (j := 0) (by simp)
theorem ix_1 : ixN (a :: b :: l).length 1 = some 1 := ixN_n (j := 1) (by simp)
theorem ix_2 : ixN (a :: b :: c :: l).length 2 = some 2 := ixN_n (j := 2) (by simp)
theorem ix_3 : ixN (a :: b :: c :: d :: l).length 3 = some 3 := ixN_n (j := 3) (by simp)
theorem ix_4 : ixN (a :: b :: c :: d :: e :: l).length 4 = some 4 := ixN_n (j := 4) (by simp)
end
/-- the steps, bound together for simp -/
def rds1 := (And.intro @gS.eq_2 (And.intro @gS.eq_3 (And.intro @dC.eq_1 (And.intro @d2.eq_1 (And.intro @d1.eq_1 (And.intro @dAnd.eq_1 (And.intro @dOr.eq_1 (And.intro @dNot.eq_1 (And.intro @dIf.eq_1 (And.intro @dNil.eq_1 (And.intro @dCons.eq_1 (And.intro @dTup.eq_1 (And.intro @dLst.eq_1 (And.intro @dSeq.eq_1 (And.intro @dNext.eq_1 (And.intro @dRet.eq_1 (And.intro @dRetN.eq_1 (And.intro @dIfS.eq_1 (And.intro @dDrop.eq_1 (And.intro @nG.eq_1 (And.intro @sS.eq_2 (And.intro @sS.eq_3 (And.intro @subG.eq_1 (And.intro @dAsg.eq_1 (And.intro @dCall.eq_1 (And.intro @dFor.eq_1 (And.intro @dLc.eq_1 (And.intro @dYes.eq_1 (And.intro @wD.eq_1 (And.intro @wD.eq_2 (And.intro @uS.eq_2 (And.intro @uS.eq_3 (And.intro @dNoPart.eq_1 (And.intro @dSl.eq_1 (And.intro @dCB.eq_1 (And.intro @dBM.eq_1 (And.intro @dBM0.eq_1 (And.intro @dDisp.eq_1 (And.intro @dNewK.eq_1 (And.intro @dDispC.eq_1 trivial))))))))))))))))))))))))))))))))))))))))
def rds2 := (And.intro @mO_some (And.intro @mBl_bl (And.intro @mInt_int (And.intro @mT_t (And.intro @mS_s (And.intro @dVar_s (And.intro @dTest_s (And.intro @d3_s (And.intro @dAndV_s (And.intro @dOrV_s (And.intro @dNotV_s (And.intro @nilG_s (And.intro @consG_s (And.intro @tupG_s (And.intro @iO_s (And.intro @iAnyX_t (And.intro @iAnyX_k (And.intro @iAnyX_s (And.intro @iAnyX_r (And.intro @iAnyD_s (And.intro @rng1_s (And.intro @rng2_s (And.intro @iRng1D_s (And.intro @iRng2D_s (And.intro @pAdd_i (And.intro @pAdd_s (And.intro @pAdd_t (And.intro @addO_s (And.intro @pAdd_l (And.intro @pSub_i (And.intro @pMul_i (And.intro @pFdv_i (And.intro @pMod_i (And.intro @pPow_i (And.intro @pLt_i (And.intro @pLe_i (And.intro @pGt_i (And.intro @pGe_i (And.intro @pLt_s (And.intro @pLe_s trivial))))))))))))))))))))))))))))))))))))))))
def rds3 := (And.intro @pGt_s (And.intro @pGe_s (And.intro @pEq_i (And.intro @pEq_s (And.intro @pEq_t (And.intro @pEq_non (And.intro @pEq_bl (And.intro @pNe_i (And.intro @pNe_s (And.intro @pNe_t (And.intro @pNe_non (And.intro @pNe_bl (And.intro @itO_l (And.intro @itO_d (And.intro @pIt_t (And.intro @pIt_k (And.intro @pIt_s (And.intro @pIt_r (And.intro @pNeg_i (And.intro @pIs_n (And.intro @pIsNot_n (And.intro @isN_non (And.intro @isN_int (And.intro @isN_bl (And.intro @isN_str (And.intro @isN_t (And.intro @isN_ref (And.intro @memO_l (And.intro @memO_d (And.intro @pMemB_t (And.intro @pMemB_s (And.intro @pMemB_r (And.intro @dPart_s (And.intro @slO_l (And.intro @pSl_t (And.intro @pSl_k (And.intro @pSl_s (And.intro @pSl_r (And.intro @cInt_i (And.intro @cInt_b trivial))))))))))))))))))))))))))))))))))))))))
def rds4 := (And.intro @cAbs_i (And.intro @lenO_l (And.intro @lenO_d (And.intro @cLen_t (And.intro @cLen_k (And.intro @cLen_s (And.intro @cLen_r (And.intro @tupO_l (And.intro @cTuple_t (And.intro @cTuple_r (And.intro @lstO_l (And.intro @cList_t (And.intro @cList_s (And.intro @cList_r (And.intro @cIsi_s (And.intro @tyO_l (And.intro @tyO_d (And.intro @ty_non (And.intro @ty_bl (And.intro @ty_int (And.intro @ty_str (And.intro @ty_t (And.intro @ty_r (And.intro @tymO_l (And.intro @tymO_d (And.intro @tyM_s (And.intro @tyM_r (And.intro @appO_l (And.intro @mAppend_s (And.intro @popO_l (And.intro @mPop_s (And.intro @revO_l (And.intro @mRev_s (And.intro @joinX_s (And.intro @joinO_l (And.intro @mJoin_t (And.intro @mJoin_r (And.intro @setO_l (And.intro @setO_d (And.intro @setK_r trivial))))))))))))))))))))))))))))))))))))))))
def rds5 := (And.intro @kdX_s (And.intro @dKd_s (And.intro @keyD_s (And.intro @keyD_i (And.intro @dPairs_n (And.intro @dPairs_c (And.intro @st_NoneType_int (And.intro @st_NoneType_bool (And.intro @st_NoneType_str (And.intro @st_NoneType_tuple (And.intro @st_NoneType_list (And.intro @st_NoneType_dict (And.intro @st_bool_int (And.intro @st_bool_bool (And.intro @st_bool_str (And.intro @st_bool_tuple (And.intro @st_bool_list (And.intro @st_bool_dict (And.intro @st_int_int (And.intro @st_int_bool (And.intro @st_int_str (And.intro @st_int_tuple (And.intro @st_int_list (And.intro @st_int_dict (And.intro @st_str_int (And.intro @st_str_bool (And.intro @st_str_str (And.intro @st_str_tuple (And.intro @st_str_list (And.intro @st_str_dict (And.intro @st_tuple_int (And.intro @st_tuple_bool (And.intro @st_tuple_str (And.intro @st_tuple_tuple (And.intro @st_tuple_list (And.intro @st_tuple_dict (And.intro @st_list_int (And.intro @st_list_bool (And.intro @st_list_str (And.intro @st_list_tuple trivial))))))))))))))))))))))))))))))))))))))))
def rds6 := (And.intro @st_list_list (And.intro @st_list_dict (And.intro @st_dict_int (And.intro @st_dict_bool (And.intro @st_dict_str (And.intro @st_dict_tuple (And.intro @st_dict_list (And.intro @st_dict_dict (And.intro @tk_int (And.intro @tk_bool (And.intro @tk_str (And.intro @tk_tuple (And.intro @tk_list (And.intro @tk_dict (And.intro @wN_nx (And.intro @wN_rt (And.intro @wN_bk (And.intro @wN_ct (And.intro @wL_nx (And.intro @wL_rt (And.intro @wL_bk (And.intro @wL_ct (And.intro @at_0 (And.intro @at_1 (And.intro @at_2 (And.intro @at_3 (And.intro @at_4 (And.intro @at_5 (And.intro @at_6 (And.intro @at_7 (And.intro @at_m1 (And.intro @ix_0 (And.intro @ix_1 (And.intro @ix_2 (And.intro @ix_3 (And.intro @ix_4 (And.intro @put_same (And.intro @put_ne (And.intro @put_put (And.intro @dIte_true trivial))))))))))))))))))))))))))))))))))))))))
def rds7 := (And.intro @dIte_false trivial)
end DL
/-! DLj: more built-ins and methods over data -/
namespace DL
open PySem L2
theorem mO_ex {α : Type} {o : Option α} {k : α → Prop} (q : mO o k) : ∃ a, o = some a ∧ k a := by
  cases o with
  | none => exact q.elim
  | some a => exact ⟨a, rfl, q⟩
/-- whole numbers of a list of data -/
def intsOf : List D → Option (List Int)
  | [] => some []
  | .v (.int i) :: r => match intsOf r with
    | some ns => some (i :: ns)
    | none => none
  | _ => none
theorem intsOf_ok : ∀ {ds : List D} {ns : List Int}, intsOf ds = some ns → ds = intsD ns
  | [], ns, h => by cases h; rfl
  | .v (.int i) :: r, ns, h => by
    unfold intsOf at h
    split at h
    · rename_i q
      cases h
      rw [intsOf_ok q]; rfl
    · cases h
  | .v .non :: _, _, h => by cases h
  | .v (.bl _) :: _, _, h => by cases h
  | .v (.str _) :: _, _, h => by cases h
  | .v (.byt _) :: _, _, h => by cases h
  | .v (.flt _) :: _, _, h => by cases h
  | .v (.ref _) :: _, _, h => by cases h
  | .v (.ty _) :: _, _, h => by cases h
  | .t _ :: _, _, h => by cases h
  | .k _ :: _, _, h => by cases h
theorem intsOf_ints (ns : List Int) : intsOf (intsD ns) = some ns := by
  induction ns with
  | nil => rfl
  | cons n r ih => rw [show intsD (n :: r) = .v (.int n) :: intsD r from rfl, intsOf, ih]
theorem rps_ints {K : PySem.W.Frag} {H : Hp} {ns : List Int} {vs : List V} (r : Rps K H (intsD ns) vs) : vs = ns.map V.int := by
  refine Rps.ofV (K := K) (H := H) ?_
  rw [List.map_map]
  exact r
theorem rps_ints' {K : PySem.W.Frag} {H : Hp} {ns : List Int} : Rps K H (intsD ns) (ns.map V.int) := by
  have := Rps.mapV (K := K) (H := H) (xs := ns.map V.int)
  rw [List.map_map] at this
  exact this
/-! ### greatest, least -/
def maxI : List Int → Int
  | [] => 0
  | x :: r => r.foldl (fun a b => if a < b then b else a) x
def minI : List Int → Int
  | [] => 0
  | x :: r => r.foldl (fun a b => if b < a then b else a) x
theorem maxI_go : ∀ (r : List Int) (x : Int), r.foldl (fun a b => if a < b then b else a) x ∈ x :: r ∧ ∀ y, y ∈ x :: r → y ≤ r.foldl (fun a b => if a < b then b else a) x
  | [], x => ⟨List.mem_singleton.mpr rfl, fun y hy => by rw [List.mem_singleton.mp hy]; exact Int.le_refl _⟩
  | z :: r, x => by
    obtain ⟨h1, h2⟩ := maxI_go r (if x < z then z else x)
    rw [List.foldl_cons]
    refine ⟨?_, fun y hy => ?_⟩
    · rcases List.mem_cons.mp h1 with e | e
      · rw [e]
        split
        · exact List.mem_cons_of_mem _ List.mem_cons_self
        · exact List.mem_cons_self
      · exact List.mem_cons_of_mem _ (List.mem_cons_of_mem _ e)
    · have h3 := h2 _ List.mem_cons_self
      have h4 : x ≤ (if x < z then z else x) ∧ z ≤ (if x < z then z else x) := by split <;> omega
      rcases List.mem_cons.mp hy with e | hy
      · subst e; omega
      rcases List.mem_cons.mp hy with e | hy
      · subst e; omega
      · exact h2 y (List.mem_cons_of_mem _ hy)
theorem minI_go : ∀ (r : List Int) (x : Int), r.foldl (fun a b => if b < a then b else a) x ∈ x :: r ∧ ∀ y, y ∈ x :: r → r.foldl (fun a b => if b < a then b else a) x ≤ y
  | [], x => ⟨List.mem_singleton.mpr rfl, fun y hy => by rw [List.mem_singleton.mp hy]; exact Int.le_refl _⟩
  | z :: r, x => by
    obtain ⟨h1, h2⟩ := minI_go r (if z < x then z else x)
    rw [List.foldl_cons]
    refine ⟨?_, fun y hy => ?_⟩
    · rcases List.mem_cons.mp h1 with e | e
      · rw [e]
        split
        · exact List.mem_cons_of_mem _ List.mem_cons_self
        · exact List.mem_cons_self
      · exact List.mem_cons_of_mem _ (List.mem_cons_of_mem _ e)
    · have h3 := h2 _ List.mem_cons_self
      have h4 : (if z < x then z else x) ≤ x ∧ (if z < x then z else x) ≤ z := by split <;> omega
      rcases List.mem_cons.mp hy with e | hy
      · subst e; omega
      rcases List.mem_cons.mp hy with e | hy
      · subst e; omega
      · exact h2 y (List.mem_cons_of_mem _ hy)
theorem maxI_mem {ns : List Int} (h : ns ≠ []) : maxI ns ∈ ns := by
  cases ns with
  | nil => exact (h rfl).elim
  | cons x r => exact (maxI_go r x).1
theorem maxI_ge {ns : List Int} {y : Int} (h : y ∈ ns) : y ≤ maxI ns := by
  cases ns with
  | nil => cases h
  | cons x r => exact (maxI_go r x).2 y h
theorem minI_mem {ns : List Int} (h : ns ≠ []) : minI ns ∈ ns := by
  cases ns with
  | nil => exact (h rfl).elim
  | cons x r => exact (minI_go r x).1
theorem minI_le {ns : List Int} {y : Int} (h : y ∈ ns) : minI ns ≤ y := by
  cases ns with
  | nil => cases h
  | cons x r => exact (minI_go r x).2 y h
theorem maxI_eq {ns : List Int} {m : Int} (h : m ∈ ns) (h' : ∀ y, y ∈ ns → y ≤ m) : m = maxI ns := Int.le_antisymm (maxI_ge h) (h' _ (maxI_mem (List.ne_nil_of_mem h)))
theorem minI_eq {ns : List Int} {m : Int} (h : m ∈ ns) (h' : ∀ y, y ∈ ns → m ≤ y) : m = minI ns := Int.le_antisymm (h' _ (minI_mem (List.ne_nil_of_mem h))) (minI_le h)
section
variable {X : Cx}
theorem holdAll_ints {h : Heap} : ∀ {ns : List Int} {us : List Value}, Vals (ns.map V.int) us → PySem.W.HoldAll h us ns
  | [], _, r => by
    rw [List.map_nil] at r
    cases r
    exact .nil
  | n :: ns, _, r => by
    rw [List.map_cons] at r
    cases r with
    | cons r t =>
      obtain ⟨k, rfl⟩ := r
      exact .cons ⟨_, .int n k⟩ (holdAll_ints t)
theorem maxOf_int : ∀ (xs : List Int) (x : Int), PySem.W.maxOf x xs = maxI (x :: xs) := by
  intro xs
  induction xs with
  | nil => intro x; rfl
  | cons y ys ih =>
    intro x
    show PySem.W.maxOf (if PySem.W.DatumOrd.lt x y = true then y else x) ys = _
    rw [ih]
    show List.foldl _ (if decide (x < y) = true then y else x) ys = List.foldl _ (if x < y then y else x) ys
    congr 1
    by_cases c : x < y <;> simp [c]
theorem minOf_int : ∀ (xs : List Int) (x : Int), PySem.W.minOf x xs = minI (x :: xs) := by
  intro xs
  induction xs with
  | nil => intro x; rfl
  | cons y ys ih =>
    intro x
    show PySem.W.minOf (if PySem.W.DatumOrd.lt y x = true then y else x) ys = _
    rw [ih]
    show List.foldl _ (if decide (y < x) = true then y else x) ys = List.foldl _ (if y < x then y else x) ys
    congr 1
    by_cases c : y < x <;> simp [c]
theorem holds_int {h : Heap} {v : Value} {i : Int} (H : PySem.W.Holds h v i) : ∃ t, v = .int i t := by
  obtain ⟨as, r⟩ := H
  cases r with
  | int _ t => exact ⟨t, rfl⟩
/-- max(t), min(t) of a tuple of ints -/
theorem call_maxT (hc : X.calm = true) {k : Nat} (hr : Room k X.A) : CallR X (.builtin "max") (fun vs H Q => ∃ (a : Addr) (ns : List Int), vs = [V.ref a] ∧ SqT X.K H a (ns.map V.int) ∧ ns ≠ [] ∧ Q (.int (maxI ns)) H) := by
  intro pins s σ H vs us Q I r h
  obtain ⟨a, ns, rfl, hs, hne, q⟩ := h
  obtain ⟨its, rv, ⟨o, n, e1, e2, e3⟩, hz⟩ := I.tuple hs
  rw [Vals.ref1 r]
  cases ns with
  | nil => exact (hne rfl).elim
  | cons x xs =>
    refine PySem.W.max_tuple_datum (α := Int) (x := x) (xs := xs) (vs := its.toArray) (I.ok.hd hc) ⟨o, n, e1, e2, e3⟩ (by rw [List.toList_toArray]; exact holdAll_ints rv) (by have := hr.units; show X.A.units + 1 + 0 < cLine; omega) fun i v h' tk hi hh hk => ?_
    obtain ⟨t, rfl⟩ := holds_int hh
    exact ⟨.int _, H, I.kept hk, ⟨t, rfl⟩, by rw [maxOf_int]; exact q⟩
theorem call_minT (hc : X.calm = true) {k : Nat} (hr : Room k X.A) : CallR X (.builtin "min") (fun vs H Q => ∃ (a : Addr) (ns : List Int), vs = [V.ref a] ∧ SqT X.K H a (ns.map V.int) ∧ ns ≠ [] ∧ Q (.int (minI ns)) H) := by
  intro pins s σ H vs us Q I r h
  obtain ⟨a, ns, rfl, hs, hne, q⟩ := h
  obtain ⟨its, rv, ⟨o, n, e1, e2, e3⟩, hz⟩ := I.tuple hs
  rw [Vals.ref1 r]
  cases ns with
  | nil => exact (hne rfl).elim
  | cons x xs =>
    refine PySem.W.min_tuple_datum (α := Int) (x := x) (xs := xs) (vs := its.toArray) (I.ok.hd hc) ⟨o, n, e1, e2, e3⟩ (by rw [List.toList_toArray]; exact holdAll_ints rv) (by have := hr.units; show X.A.units + 1 + 0 < cLine; omega) fun i v h' tk hi hh hk => ?_
    obtain ⟨t, rfl⟩ := holds_int hh
    exact ⟨.int _, H, I.kept hk, ⟨t, rfl⟩, by rw [minOf_int]; exact q⟩
def maxIX (ds : List D) (h : Hd) (Q : KD) : Prop := mO (intsOf ds) fun ns => ns ≠ [] ∧ Q (.v (.int (maxI ns))) h
def cMax : CD := fun ds h Q => match ds with
  | [.v (.int i), .v (.int j)] => Q (.v (.int (if j > i then j else i))) h
  | [.t xs] => maxIX xs h Q
  | [.v (.ref a)] => mO (rdL h a) fun xs => maxIX xs h Q
  | _ => False
theorem ca_max (hc : X.calm = true) {k : Nat} (hr : Room k X.A) : DCa X (.builtin "max") cMax := dca_of ((call_max2 hc).or ((cr_max hc).or (call_maxT hc hr))) fun xs H Q ⟨ds, h, Qd, rp, rh, q, o⟩ => by
  unfold cMax at q
  split at q
  · cases rp with
    | cons r1 r2 =>
      cases r2 with
      | cons r2 r3 =>
        cases r3; cases r1; cases r2
        exact .inl ⟨_, _, rfl, o _ h _ H q (Go.refl rh) (.v _)⟩
  · cases rp with
    | cons r1 r2 =>
      cases r2
      cases r1 with
      | t sq r =>
        obtain ⟨ns, e, q0, q⟩ := mO_ex q
        rw [intsOf_ok e] at r
        have := rps_ints r
        subst this
        exact .inr (.inr ⟨_, ns, rfl, sq, q0, o _ h _ H q (Go.refl rh) (.v _)⟩)
  · obtain ⟨xs, e, q⟩ := mO_ex q
    obtain ⟨ns, e2, q0, q⟩ := mO_ex q
    cases rp with
    | cons r1 r2 =>
      cases r2; cases r1
      obtain ⟨vs, sq, r⟩ := rdL_ok rh e
      rw [intsOf_ok e2] at r
      have := rps_ints r
      subst this
      refine .inr (.inl ⟨_, ns, rfl, sq, List.length_pos_iff.mpr q0, fun m h1 h2 => ?_⟩)
      rw [maxI_eq h1 h2]
      exact o _ h _ H q (Go.refl rh) (.v _)
  · exact q.elim
theorem cMax_2 {i j : Int} {h : Hd} {Q : KD} : cMax [.v (.int i), .v (.int j)] h Q = Q (.v (.int (if j > i then j else i))) h := rfl
theorem cMax_t {xs : List D} {h : Hd} {Q : KD} : cMax [.t xs] h Q = maxIX xs h Q := rfl
def maxIO (o : Option O) (h : Hd) (Q : KD) : Prop := match o with
  | some (.lst xs) => maxIX xs h Q
  | _ => False
theorem maxIO_l {xs : List D} {h : Hd} {Q : KD} : maxIO (some (.lst xs)) h Q = maxIX xs h Q := rfl
theorem cMax_r {a : Addr} {h : Hd} {Q : KD} : cMax [.v (.ref a)] h Q = maxIO (h a) h Q := by
  show mO (rdL h a) (fun xs => maxIX xs h Q) = _
  unfold rdL
  cases h a with
  | none => rfl
  | some o => cases o <;> rfl
def minIX (ds : List D) (h : Hd) (Q : KD) : Prop := mO (intsOf ds) fun ns => ns ≠ [] ∧ Q (.v (.int (minI ns))) h
def cMin : CD := fun ds h Q => match ds with
  | [.v (.int i), .v (.int j)] => Q (.v (.int (if j < i then j else i))) h
  | [.t xs] => minIX xs h Q
  | [.v (.ref a)] => mO (rdL h a) fun xs => minIX xs h Q
  | _ => False
theorem ca_min (hc : X.calm = true) {k : Nat} (hr : Room k X.A) : DCa X (.builtin "min") cMin := dca_of ((call_min2 hc).or ((cr_min hc).or (call_minT hc hr))) fun xs H Q ⟨ds, h, Qd, rp, rh, q, o⟩ => by
  unfold cMin at q
  split at q
  · cases rp with
    | cons r1 r2 =>
      cases r2 with
      | cons r2 r3 =>
        cases r3; cases r1; cases r2
        exact .inl ⟨_, _, rfl, o _ h _ H q (Go.refl rh) (.v _)⟩
  · cases rp with
    | cons r1 r2 =>
      cases r2
      cases r1 with
      | t sq r =>
        obtain ⟨ns, e, q0, q⟩ := mO_ex q
        rw [intsOf_ok e] at r
        have := rps_ints r
        subst this
        exact .inr (.inr ⟨_, ns, rfl, sq, q0, o _ h _ H q (Go.refl rh) (.v _)⟩)
  · obtain ⟨xs, e, q⟩ := mO_ex q
    obtain ⟨ns, e2, q0, q⟩ := mO_ex q
    cases rp with
    | cons r1 r2 =>
      cases r2; cases r1
      obtain ⟨vs, sq, r⟩ := rdL_ok rh e
      rw [intsOf_ok e2] at r
      have := rps_ints r
      subst this
      refine .inr (.inl ⟨_, ns, rfl, sq, List.length_pos_iff.mpr q0, fun m h1 h2 => ?_⟩)
      rw [minI_eq h1 h2]
      exact o _ h _ H q (Go.refl rh) (.v _)
  · exact q.elim
theorem cMin_2 {i j : Int} {h : Hd} {Q : KD} : cMin [.v (.int i), .v (.int j)] h Q = Q (.v (.int (if j < i then j else i))) h := rfl
theorem cMin_t {xs : List D} {h : Hd} {Q : KD} : cMin [.t xs] h Q = minIX xs h Q := rfl
def minIO (o : Option O) (h : Hd) (Q : KD) : Prop := match o with
  | some (.lst xs) => minIX xs h Q
  | _ => False
theorem minIO_l {xs : List D} {h : Hd} {Q : KD} : minIO (some (.lst xs)) h Q = minIX xs h Q := rfl
theorem cMin_r {a : Addr} {h : Hd} {Q : KD} : cMin [.v (.ref a)] h Q = minIO (h a) h Q := by
  show mO (rdL h a) (fun xs => minIX xs h Q) = _
  unfold rdL
  cases h a with
  | none => rfl
  | some o => cases o <;> rfl
theorem io_nil : intsOf [] = some [] := rfl
def conI (i : Int) (o : Option (List Int)) : Option (List Int) := match o with
  | some ns => some (i :: ns)
  | none => none
theorem conI_s {i : Int} {ns : List Int} : conI i (some ns) = some (i :: ns) := rfl
theorem io_cons {i : Int} {r : List D} : intsOf (.v (.int i) :: r) = conI i (intsOf r) := by
  unfold conI
  rw [intsOf]
/-! ### sum, sorted -/
def sumX (ds : List D) (h : Hd) (Q : KD) : Prop := mO (intsOf ds) fun ns => Q (.v (.int ns.sum)) h
def cSum : CD := fun ds h Q => match ds with
  | [.v (.ref a)] => mO (rdL h a) fun xs => sumX xs h Q
  | _ => False
theorem ca_sum (hc : X.calm = true) : DCa X (.builtin "sum") cSum := dca_of (cr_sum hc) fun xs H Q ⟨ds, h, Qd, rp, rh, q, o⟩ => by
  unfold cSum at q
  split at q
  · obtain ⟨xs, e, q⟩ := mO_ex q
    obtain ⟨ns, e2, q⟩ := mO_ex q
    cases rp with
    | cons r1 r2 =>
      cases r2; cases r1
      obtain ⟨vs, sq, r⟩ := rdL_ok rh e
      rw [intsOf_ok e2] at r
      have := rps_ints r
      subst this
      exact ⟨_, ns, rfl, sq, o _ h _ H q (Go.refl rh) (.v _)⟩
  · exact q.elim
def sumO (o : Option O) (h : Hd) (Q : KD) : Prop := match o with
  | some (.lst xs) => sumX xs h Q
  | _ => False
theorem sumO_l {xs : List D} {h : Hd} {Q : KD} : sumO (some (.lst xs)) h Q = sumX xs h Q := rfl
theorem cSum_r {a : Addr} {h : Hd} {Q : KD} : cSum [.v (.ref a)] h Q = sumO (h a) h Q := by
  show mO (rdL h a) (fun xs => sumX xs h Q) = _
  unfold rdL
  cases h a with
  | none => rfl
  | some o => cases o <;> rfl
inductive BxS (Q : List Int → Prop) : Type
  | mk
/-- the numbers in order -/
def srt (ns : List Int) (Q : List Int → Prop) (_ : BxS Q) : Prop := ∀ ns' : List Int, ns'.Perm ns → ns'.Pairwise (· ≤ ·) → Q ns'
theorem srt_i {ns : List Int} {Q : List Int → Prop} {b : BxS Q} (h : ∀ ns' : List Int, ns'.Perm ns → ns'.Pairwise (· ≤ ·) → Q ns') : srt ns Q b := h
def sortX (ds : List D) (h : Hd) (Q : KD) : Prop := mO (intsOf ds) fun ns => srt ns (fun ns' => al h (fun p => Q (.v (.ref p)) (put h p (.lst (intsD ns')))) .mk) .mk
def cSorted : CD := fun ds h Q => match ds with
  | [.v (.ref a)] => mO (rdL h a) fun xs => sortX xs h Q
  | _ => False
theorem ca_sorted : DCa X (.builtin "sorted") cSorted := dca_of cr_sortedI fun xs H Q ⟨ds, h, Qd, rp, rh, q, o⟩ => by
  unfold cSorted at q
  split at q
  · obtain ⟨xs, e, q⟩ := mO_ex q
    obtain ⟨ns, e2, q⟩ := mO_ex q
    cases rp with
    | cons r1 r2 =>
      cases r2; cases r1
      obtain ⟨vs, sq, r⟩ := rdL_ok rh e
      rw [intsOf_ok e2] at r
      have := rps_ints r
      subst this
      exact ⟨_, ns, rfl, sq, fun ns' p h1 h2 hp => o _ _ _ _ (q ns' h1 h2 p (rh.free hp)) (Go.new rh hp ⟨_, rfl, rps_ints'⟩) (.v _)⟩
  · exact q.elim
def sortO (o : Option O) (h : Hd) (Q : KD) : Prop := match o with
  | some (.lst xs) => sortX xs h Q
  | _ => False
theorem sortO_l {xs : List D} {h : Hd} {Q : KD} : sortO (some (.lst xs)) h Q = sortX xs h Q := rfl
theorem cSorted_r {a : Addr} {h : Hd} {Q : KD} : cSorted [.v (.ref a)] h Q = sortO (h a) h Q := by
  show mO (rdL h a) (fun xs => sortX xs h Q) = _
  unfold rdL
  cases h a with
  | none => rfl
  | some o => cases o <;> rfl
/-! ### texts -/
def mSplit : MD := fun x ds h Q => match x, ds with
  | .v (.str a), [.v (.str b)] => (b.length == 0) = false ∧ a.length + 2 ≤ sizeLine ∧ al h (fun p => Q (.v (.ref p)) (put h p (.lst ((Txt.split a b).map fun z => .v (.str z))))) .mk
  | _, _ => False
theorem rps_strs' {K : PySem.W.Frag} {H : Hp} {zs : List Str} : Rps K H (zs.map fun z => D.v (.str z)) (zs.map V.str) := by
  have := Rps.mapV (K := K) (H := H) (xs := zs.map V.str)
  rw [List.map_map] at this
  exact this
theorem dm_split : DMt X "str.split" mSplit := dmt_of mt_split fun x xs H Q ⟨dx, ds, h, Qd, rx, rv, rh, q, o⟩ => by
  unfold mSplit at q
  split at q
  · cases rx
    cases rv with
    | cons r1 r2 =>
      cases r2; cases r1
      exact ⟨_, _, rfl, rfl, q.1, q.2.1, fun p hp => o _ _ _ _ (q.2.2 p (rh.free hp)) (Go.new rh hp ⟨_, rfl, rps_strs'⟩) (.v _)⟩
  · exact q.elim
theorem mSplit_s {a b : Str} {h : Hd} {Q : KD} : mSplit (.v (.str a)) [.v (.str b)] h Q = ((b.length == 0) = false ∧ a.length + 2 ≤ sizeLine ∧ al h (fun p => Q (.v (.ref p)) (put h p (.lst ((Txt.split a b).map fun z => .v (.str z))))) .mk) := rfl
def mUpper : MD := fun x ds h Q => match x, ds with
  | .v (.str a), [] => a.length ≤ 5592405 ∧ Q (.v (.str (Txt.upper a))) h
  | _, _ => False
theorem dm_upper : DMt X "str.upper" mUpper := dmt_of mt_upper fun x xs H Q ⟨dx, ds, h, Qd, rx, rv, rh, q, o⟩ => by
  unfold mUpper at q
  split at q
  · cases rx; cases rv
    exact ⟨_, rfl, rfl, q.1, o _ h _ H q.2 (Go.refl rh) (.v _)⟩
  · exact q.elim
theorem mUpper_s {a : Str} {h : Hd} {Q : KD} : mUpper (.v (.str a)) [] h Q = (a.length ≤ 5592405 ∧ Q (.v (.str (Txt.upper a))) h) := rfl
def mLower : MD := fun x ds h Q => match x, ds with
  | .v (.str a), [] => a.length ≤ 5592405 ∧ Q (.v (.str (Txt.lower a))) h
  | _, _ => False
theorem dm_lower : DMt X "str.lower" mLower := dmt_of mt_lower fun x xs H Q ⟨dx, ds, h, Qd, rx, rv, rh, q, o⟩ => by
  unfold mLower at q
  split at q
  · cases rx; cases rv
    exact ⟨_, rfl, rfl, q.1, o _ h _ H q.2 (Go.refl rh) (.v _)⟩
  · exact q.elim
theorem mLower_s {a : Str} {h : Hd} {Q : KD} : mLower (.v (.str a)) [] h Q = (a.length ≤ 5592405 ∧ Q (.v (.str (Txt.lower a))) h) := rfl
/-! ### list.index -/
/-- the first place of what is the same -/
def ixD (y : D) : List D → Option Nat
  | [] => none
  | x :: r => if eqD x y = true then some 0 else (ixD y r).map Nat.succ
theorem ixD_ok {y : D} : ∀ {ds : List D} {j : Nat}, ixD y ds = some j → (∃ z, ds[j]? = some z ∧ eqD z y = true) ∧ ∀ m z', m < j → ds[m]? = some z' → eqD z' y = false
  | [], j, e => by cases e
  | x :: r, j, e => by
    unfold ixD at e
    by_cases c : eqD x y = true
    · rw [if_pos c] at e
      cases e
      exact ⟨⟨x, rfl, c⟩, fun m z' hm => (Nat.not_lt_zero _ hm).elim⟩
    · rw [if_neg c] at e
      cases e1 : ixD y r with
      | none => rw [e1] at e; cases e
      | some k =>
        rw [e1] at e
        cases e
        obtain ⟨⟨z, h1, h2⟩, h3⟩ := ixD_ok e1
        refine ⟨⟨z, by simpa using h1, h2⟩, fun m z' hm hz => ?_⟩
        cases m with
        | zero =>
          simp at hz
          subst hz
          exact Bool.eq_false_iff.mpr c
        | succ m => exact h3 m z' (Nat.lt_of_succ_lt_succ hm) (by simpa using hz)
def ixX (xs : List D) (y : D) (h : Hd) (Q : KD) : Prop := flatD y = true ∧ xs.all flatD = true ∧ mO (ixD y xs) fun j => Q (.v (.int (j : Nat))) h
def mIndex : MD := fun x ds h Q => match x, ds with
  | .v (.ref a), [y] => mO (rdL h a) fun xs => ixX xs y h Q
  | _, _ => False
theorem dm_index : DMt X "list.index" mIndex := dmt_of mt_index fun x xs H Q ⟨dx, ds, h, Qd, rx, rv, rh, q, o⟩ => by
  unfold mIndex at q
  split at q
  · obtain ⟨xs, e, f1, f2, q⟩ := mO_ex q
    obtain ⟨j, e3, q9⟩ := mO_ex q
    cases rx
    cases rv with
    | cons r1 r2 =>
      cases r2
      obtain ⟨vs, sq, r⟩ := rdL_ok rh e
      obtain ⟨e1, g1⟩ := flatD_v f1 r1
      obtain ⟨e2, g2⟩ := flatD_vs f2 r
      subst e1 e2
      obtain ⟨⟨z, h1, h2⟩, h3⟩ := ixD_ok e3
      rw [List.getElem?_map] at h1
      cases e4 : vs[j]? with
      | none => rw [e4] at h1; cases h1
      | some zv =>
        rw [e4] at h1
        cases h1
        unfold eqD at h2
        refine ⟨_, vs, _, j, zv, rfl, rfl, sq, g1, g2, e4, h2, fun m z' hm hz => ?_, o _ h _ H q9 (Go.refl rh) (.v _)⟩
        have := h3 m (.v z') hm (by rw [List.getElem?_map, hz]; rfl)
        unfold eqD at this
        exact this
  · exact q.elim
def ixO (o : Option O) (y : D) (h : Hd) (Q : KD) : Prop := match o with
  | some (.lst xs) => ixX xs y h Q
  | _ => False
theorem ixO_l {xs : List D} {y : D} {h : Hd} {Q : KD} : ixO (some (.lst xs)) y h Q = ixX xs y h Q := rfl
theorem mIndex_r {a : Addr} {y : D} {h : Hd} {Q : KD} : mIndex (.v (.ref a)) [y] h Q = ixO (h a) y h Q := by
  show mO (rdL h a) (fun xs => ixX xs y h Q) = _
  unfold rdL
  cases h a with
  | none => rfl
  | some o => cases o <;> rfl
end
def rds8 := (And.intro @cMax_2 (And.intro @cMax_t (And.intro @maxIO_l (And.intro @cMax_r (And.intro @cMin_2 (And.intro @cMin_t (And.intro @minIO_l (And.intro @cMin_r (And.intro @io_nil (And.intro @conI_s (And.intro @io_cons (And.intro @sumO_l (And.intro @cSum_r (And.intro @sortO_l (And.intro @cSorted_r (And.intro @mSplit_s (And.intro @mUpper_s (And.intro @mLower_s (And.intro @ixO_l (And.intro @mIndex_r (And.intro @maxIX.eq_1 (And.intro @minIX.eq_1 (And.intro @sumX.eq_1 (And.intro @sortX.eq_1 (And.intro @ixX.eq_1 trivial)))))))))))))))))))))))))
end DL
/-! DLk: a display of sixteen pairs (each is stored as soon as it is made) -/
namespace DL
open PySem L2
inductive DKs (X : Cx) (B : Bs) : List (Option Expr) → List Expr → List (Key × D) → Prop
  | nil : DKs X B [] [] []
  | cons {k v : Expr} {ks : List (Option Expr)} {vs : List Expr} {key : Key} {d : D} {r : List (Key × D)} : DE X B k (dC (.v (kV key))) → DE X B v (dC d) → DKs X B ks vs r → DKs X B (some k :: ks) (v :: vs) ((key, d) :: r)
theorem DKs.len {X : Cx} {B : Bs} : ∀ {ks : List (Option Expr)} {vs : List Expr} {r : List (Key × D)}, DKs X B ks vs r → r.length = ks.length ∧ ks.length = vs.length ∧ ks.all (·.isSome) = true
  | _, _, _, .nil => ⟨rfl, rfl, rfl⟩
  | _, _, _, .cons _ _ t => by
    obtain ⟨h1, h2, h3⟩ := t.len
    exact ⟨congrArg Nat.succ h1, congrArg Nat.succ h2, by simpa using h3⟩
theorem merge_cons (acc : List (Key × D)) (kv : Key × D) (r : List (Key × D)) : mergeD acc (kv :: r) = mergeD (putD acc kv.1 kv.2) r := rfl
section
variable {X : Cx} {B : Bs}
theorem length_putD {κ : Type} [DecidableEq κ] (kvs : List (κ × D)) (k : κ) (d : D) : (putD kvs k d).length ≤ kvs.length + 1 := by
  unfold putD
  split
  · rw [List.length_map]; exact Nat.le_succ _
  · rw [List.length_append]; exact Nat.le_refl _
theorem disp_run {pins : List (Addr × Obj)} {σV : St} {σ : Sd} {pos : Pos} {H0 : Hp} {h : Hd} {p : Addr} (np : H0 p = none) (nh : h p = none) (g00 : Go X.gv B.H B.h H0 h) :
    ∀ {keys : List (Option Expr)} {values : List Expr} {kvs : List (Key × D)}, DKs X B keys values kvs → ∀ (s : Shared) (H : Hp) (acc : List (Key × D)) (accV : List (Key × V)) (Q : PUnit → Shared → Prop), Inv X pins σV H s → Go X.gv H0 h H h → RelS X.gv H σ σV → H p = some (.dK accV) →
      RpK X.gv H acc accV → acc.length + kvs.length ≤ 1000 → (∀ s' H' vV, Inv X pins σV H' s' → Go X.gv H0 h H' h → H' p = some (.dK vV) → RpK X.gv H' (mergeD acc kvs) vV → Q PUnit.unit s') →
      wpAny (model X.prog X.w) X.A (forIn (pairTrees keys values X.env pos) PUnit.unit fun (x : Sem Value × Sem Value) (_ : PUnit) => (do
        let kv ← x.1
        let vv ← holding [kv] x.2
        holding [kv, vv] (dictSet p kv vv)
        pure (ForInStep.yield PUnit.unit) : Sem (ForInStep PUnit))) Q X.xe s
  | _, _, _, .nil, s, H, acc, accV, Q, I, g, rs, e, ra, hl, k => by
    show wpAny _ _ (forIn [] _ _) _ _ _
    rw [List.forIn_nil]
    exact wpAny_pure (k s H accV I g e ra)
  | _, _, _, .cons (key := key) (d := d) (r := r) hk hv t, s, H, acc, accV, Q, I, g, rs, e, ra, hl, k => by
    show wpAny _ _ (forIn (_ :: _) _ _) _ _ _
    rw [List.forIn_cons]
    rw [List.length_cons] at hl
    refine wpAny_bind (wpAny_bind (thn (hk.run pins s σV H (fun x H1 => x = kV key ∧ Go X.gv H h H1 h) I ⟨σ, h, fun d' h' => d' = .v (kV key) ∧ h' = h, ⟨g00.trans g, rs⟩, ⟨rfl, rfl⟩, fun d' h' v H' ⟨e1, e2⟩ g' rp => by
      subst e1 e2
      cases rp
      exact ⟨rfl, g'⟩⟩) fun kv s1 ⟨x, H1, I1, rk, ek, g1⟩ => ?_))
    subst ek
    have e1 := g1.fr p _ e nh
    refine wpAny_bind (wpAny_holding (wpAny_bind (thn (hv.run pins s1 σV H1 (fun y H2 => Rp X.K H2 d y ∧ Go X.gv H1 h H2 h) I1 ⟨σ, h, fun d' h' => d' = d ∧ h' = h, ⟨g00.trans (g.trans g1), rs.stb g1.st⟩, ⟨rfl, rfl⟩, fun d' h' v H' ⟨e1, e2⟩ g' rp => by
      subst e1 e2
      exact ⟨rp, g'⟩⟩) fun vv s2 ⟨y, H2, I2, rv, ⟨rp, g2⟩⟩ => wpAny_bind (wpAny_standAt (wpAny_pure ?_)))))
    have e2 := g2.fr p _ e1.1 nh
    have g12 := g1.trans g2
    obtain ⟨z, hd, vs0, rel, dd⟩ := dk_of I2.hok e2.1
    have hla : acc.length = accV.length := ra.len
    have big : (1000 : Nat) ≤ sizeLine := by decide
    refine wpAny_bind (wpAny_holding (wpAny_dictSet_pairs (hsz := by rw [← rel.length]; exact z) (kV_is rk) dd fun h' dd' hs => wpAny_pure ?_))
    have he : ∃ q, h'.get? p = some q := let ⟨q, _, _, hq, _⟩ := dd'; ⟨q, hq⟩
    have I3 : L2.Inv X pins σV (upd H2 p (.dK (putK accV key y))) { s2 with heap := h', toks := s2.toks + 1 } := d_write I2 (by rw [e2.1]; exact True.intro) hs he (dk_new (by have := length_putK accV key y; omega) hd (rel.put key rv) dd')
    have st3 : Stb H2 (upd H2 p (.dK (putK accV key y))) := Stb.set e2.1 trivial
    have g02 := g.trans g12
    have g3 : Go X.gv H0 h (upd H2 p (.dK (putK accV key y))) h := ⟨g02.st.trans st3, fun a o' e' n => by
      have zz := ne_of_none e' np
      exact ⟨by rw [upd_ne zz]; exact (g02.fr a o' e' n).1, n⟩, fun b ob eb => by
      have zz : b ≠ p := fun q => by rw [q, nh] at eb; cases eb
      obtain ⟨u, eu, ou⟩ := g02.rh b ob eb
      exact ⟨u, by rw [upd_ne zz]; exact eu, ou.stb st3⟩⟩
    refine disp_run np nh g00 t _ _ (putD acc key d) _ Q I3 g3 ((rs.stb g12.st).stb st3) upd_same ((putD_rel (ra.stb g12.st) rp).stb st3) (by have := length_putD acc key d; omega) fun s' H' vV i1 i2 i3 i4 => k s' H' vV i1 i2 i3 i4
theorem de_dispL {keys : List (Option Expr)} {values : List Expr} {kvs : List (Key × D)} {pos : Pos} (h : DKs X B keys values kvs) (h16 : keys.length = 16 := by rfl) : DE X B (.Dict keys values pos) (dDispC kvs) := by
  obtain ⟨l1, l2, l3⟩ := h.len
  refine ⟨fun pins s σV H QV I ⟨σ, hh, Q, r0, q, o⟩ => ?_⟩
  have hn := I.hok.fresh (Nat.le_refl s.heap.objs.size)
  have n0 : hh s.heap.objs.size = none := r0.h.free hn
  have I1 := I.laid (a := s.heap.objs.size) (o := .dK []) (h' := s.heap.push { cls := .type "dict", data := .dict #[] }) (t' := s.toks) (fun _ _ q => Heap.get?_push_of_some _ q) (Nat.le_refl _) (dk_empty s.heap I.big)
  have pl := pairTrees_length keys values X.env pos l3 l2
  have ne : pairTrees keys values X.env pos ≠ [] := fun z => by rw [z] at pl; rw [h16] at pl; cases pl
  rw [arm_eval_Dict, zip_pairTrees keys values X.env pos l3 l2, dictDisplay_pairs _ ne (by omega)]
  refine wpAny_bind (wpAny_standAt (wpAny_bind ?_))
  unfold subDict
  refine wpAny_bind (wpAny_alloc ?_)
  refine wpAny_bind (wpAny_holding ?_)
  rw [if_neg (by omega)]
  refine wpAny_bind (wpAny_rule ?_)
  refine wpAny_bind (disp_run (pos := pos) hn n0 r0.go h _ _ [] [] _ I1 (Go.hid r0.h hn) (r0.s.stb (Stb.new hn)) upd_same .nil (by simp; omega) fun s' H' vV i1 g02 e' rm => wpAny_pure ?_)
  refine wpAny_pure (wpAny_pure ⟨.ref s.heap.objs.size, H', i1, rfl, ?_⟩)
  refine o _ _ _ H' (q _ n0) ⟨g02.st, fun a o' e1 n => ?_, fun b ob eb => ?_⟩ (.v _)
  · have z : a ≠ s.heap.objs.size := ne_of_none e1 hn
    exact ⟨(g02.fr a o' e1 n).1, by rw [put_ne z]; exact n⟩
  · by_cases z : b = s.heap.objs.size
    · subst z
      rw [put_same] at eb; cases eb
      exact ⟨_, e', _, rfl, rm⟩
    · rw [put_ne z] at eb
      exact g02.rh b ob eb
end
end DL
/-! DLl: comprehensions of two clauses -/
namespace DL
open PySem L2
def dComp2 (g : GD) (tt : TD) (wi1 : ID) (g1 : GD) (tt1 : TD) (te : ED) (vs1 : List Nat) (chk : Hd → Prop) : List D → List D → Sd → Hd → (List D → Hd → Prop) → Prop
  | [], acc, _, h, Q => chk h ∧ Q acc h
  | x :: xs, acc, σ, h, Q => chk h ∧ g x σ h fun σ2 h2 => tt σ2 h2 fun b h3 => dIte (b = true) (wi1 σ2 h3 fun items1 chk1 h4 => dComp g1 tt1 te chk1 items1 acc (wD σ2 vs1) h4 fun acc' h5 => dComp2 g tt wi1 g1 tt1 te vs1 chk xs acc' σ h5 Q) (dComp2 g tt wi1 g1 tt1 te vs1 chk xs acc σ h3 Q) .mk
def cmp2 (g : GD) (tt : TD) (wi1 : ID) (g1 : GD) (tt1 : TD) (te : ED) (vs1 : List Nat) (chk : Hd → Prop) (items : List D) (σ : Sd) (h : Hd) (Q : List D → Hd → Prop) (_ : BxC Q) : Prop := dComp2 g tt wi1 g1 tt1 te vs1 chk items [] σ h Q
def dLc2 (wi : ID) (g : GD) (tt : TD) (wi1 : ID) (g1 : GD) (tt1 : TD) (te : ED) (vs vs1 : List Nat) : ED := fun σ h Q => wi σ h fun items chk h1 => cmp2 g tt wi1 g1 tt1 te vs1 chk items (wD σ vs) h1 (fun ys h2 => ∀ p, h2 p = none → Q (.v (.ref p)) (put h2 p (.lst ys))) .mk
section
variable {X : Cx} {B : Bs} {E : ER}
theorem go_hs {G : Gv} {H1 H2 : Hp} {h1 h2 : Hd} {D : Addr} {w u : HO} (g : Go G H1 h1 H2 h2) (n1 : H1 D = none) (f2 : h2 D = none) (e2 : H2 D = some w) (m : Mt w) : Go G H1 h1 (upd H2 D u) h2 :=
  ⟨g.st.trans (Stb.set e2 m), fun a o' e' n => by
    have z : a ≠ D := ne_of_none e' n1
    exact ⟨by rw [upd_ne z]; exact (g.fr a o' e' n).1, (g.fr a o' e' n).2⟩, fun b o' e' => by
    have z : b ≠ D := fun z => by rw [z, f2] at e'; cases e'
    obtain ⟨u, eu, ou⟩ := g.rh b o' e'
    exact ⟨u, by rw [upd_ne z]; exact eu, ou.stb (Stb.set e2 m)⟩⟩
theorem lc2_of {wi wi1 : ID} {gV gV1 : TG} {g g1 : GD} {tt tt1 : TD} {te : ED} {vs vs1 : List Nat} {G : Gv} {σV : St} {H : Hp} {QV : VK} (gw : GW G gV g vs) (gw1 : GW G gV1 g1 vs1) (q : lE G B (dLc2 wi g tt wi1 g1 tt1 te vs vs1) σV H QV) :
    tLc2 (lI G B wi) gV (lT G B tt) (lI G B wi1) gV1 (lT G B tt1) (lE G B te) vs vs1 σV H QV := by
  obtain ⟨σ, h, Q, r0, q, o⟩ := q
  refine ⟨σ, h, _, r0, q, fun items chk h1 H1 J q1 g1' jo D hD => ?_⟩
  have hD1 : h1 D = none := g1'.rh.free hD
  refine ⟨fun i m H' => ∃ h' acc accV, Go G H1 h1 H' h' ∧ h' D = none ∧ H' D = some (.lst accV) ∧ Rps G.K H' acc accV ∧ m = items.length - i ∧ i ≤ items.length ∧ dComp2 g tt wi1 g1 tt1 te vs1 chk (items.drop i) acc (wD σ vs) h' (fun ys h2 => ∀ p, h2 p = none → Q (.v (.ref p)) (put h2 p (.lst ys))),
    ⟨items.length, h1, [], [], Go.hid g1'.rh hD, hD1, upd_same, .nil, by simp, Nat.zero_le _, by simpa [cmp2] using q1⟩, ?_⟩
  rintro i m H' ⟨h', acc, accV, g12, nD, eD, ra, rfl, hi, ql⟩
  by_cases hlt : i < items.length
  · rw [List.drop_eq_getElem_cons hlt] at ql
    obtain ⟨hc, ql⟩ := ql
    refine .inr ⟨jo.go i H' h' g12.st g12.rh hc hlt, fun H2 => ∃ h2 acc2 accV2, Go G H1 h1 H2 h2 ∧ h2 D = none ∧ H2 D = some (.lst accV2) ∧ Rps G.K H2 acc2 accV2 ∧ dComp2 g tt wi1 g1 tt1 te vs1 chk (items.drop (i + 1)) acc2 (wD σ vs) h2 (fun ys h2 => ∀ p, h2 p = none → Q (.v (.ref p)) (put h2 p (.lst ys))),
      fun H2 ⟨h2, acc2, accV2, a1, a2, a3, a4, a5⟩ => ⟨items.length - (i + 1), by omega, h2, acc2, accV2, a1, a2, a3, a4, rfl, hlt, a5⟩, fun x H3 y => ?_⟩
    obtain ⟨d, ed, rd, g3⟩ := jo.yld i H' h' x H3 g12.st g12.rh hc hlt y
    rw [List.getElem?_eq_getElem hlt] at ed
    cases ed
    have g03 : Go G H h H3 h' := g1'.trans (g12.trans g3)
    have rw3 : RelS G H3 (wD σ vs) (wipe σV vs) := relS_wipe (r0.s.stb g03.st) vs
    refine gw.run _ x (wD σ vs) h' _ H3 _ _ rd rw3 ql fun σ4 σV4 q4 r4 w4 => ⟨w4.trans (wipe_wipe σV vs), ?_⟩
    refine ⟨σ4, h', _, ⟨r0.go.trans g03, r4⟩, q4, fun b h5 H5 q5 g5 => ?_⟩
    have g25 : Go G H' h' H5 h5 := g3.trans g5
    have fD5 := g25.fr D _ eD nD
    cases b with
    | false =>
      refine iteF ⟨h5, acc, accV, g12.trans g25, fD5.2, fD5.1, ra.stb g25.st, (by simpa [dIte] using q5)⟩
    | true =>
      refine iteT ⟨σ4, h5, _, ⟨r0.go.trans (g03.trans g5), r4.stb g5.st⟩, (by simpa [dIte] using q5), fun items1 chk1 h6 H6 J1 q6 g6 jo1 => ?_⟩
      have g26 := g25.trans g6
      have fD6 := g26.fr D _ eD nD
      have g16 := g12.trans g26
      refine ⟨fun j k Hc => ∃ hc acc accV, Go G H1 h1 Hc hc ∧ Stb H6 Hc ∧ hc D = none ∧ Hc D = some (.lst accV) ∧ Rps G.K Hc acc accV ∧ k = items1.length - j ∧ j ≤ items1.length ∧ dComp g1 tt1 te chk1 (items1.drop j) acc (wD σ4 vs1) hc (fun acc' h5 => dComp2 g tt wi1 g1 tt1 te vs1 chk (items.drop (i + 1)) acc' (wD σ vs) h5 (fun ys h2 => ∀ p, h2 p = none → Q (.v (.ref p)) (put h2 p (.lst ys)))),
        ⟨items1.length, h6, acc, accV, g16, Stb.refl _, fD6.2, fD6.1, ra.stb g26.st, by simp, Nat.zero_le _, by simpa using q6⟩, ?_⟩
      rintro j k Hc ⟨hc1, acc, accV, gc, sc, nD, eD, ra, rfl, hj, qj⟩
      by_cases hlj : j < items1.length
      · rw [List.drop_eq_getElem_cons hlj] at qj
        obtain ⟨hcj, qj⟩ := qj
        refine .inr ⟨jo1.go j Hc hc1 sc gc.rh hcj hlj, fun H2 => ∃ h2 acc2 accV2, Go G H1 h1 H2 h2 ∧ Stb H6 H2 ∧ h2 D = none ∧ H2 D = some (.lst accV2) ∧ Rps G.K H2 acc2 accV2 ∧ dComp g1 tt1 te chk1 (items1.drop (j + 1)) acc2 (wD σ4 vs1) h2 (fun acc' h5 => dComp2 g tt wi1 g1 tt1 te vs1 chk (items.drop (i + 1)) acc' (wD σ vs) h5 (fun ys h2 => ∀ p, h2 p = none → Q (.v (.ref p)) (put h2 p (.lst ys)))),
          fun H2 ⟨h2, acc2, accV2, a1, a0, a2, a3, a4, a5⟩ => ⟨items1.length - (j + 1), by omega, h2, acc2, accV2, a1, a0, a2, a3, a4, rfl, hlj, a5⟩, fun x1 H7 y1 => ?_⟩
        obtain ⟨d1, ed1, rd1, g7⟩ := jo1.yld j Hc hc1 x1 H7 sc gc.rh hcj hlj y1
        rw [List.getElem?_eq_getElem hlj] at ed1
        cases ed1
        have gB : Go G H h Hc hc1 := g1'.trans gc
        have s47 : Stb H3 H7 := (g5.st.trans g6.st).trans (sc.trans g7.st)
        have rw7 : RelS G H7 (wD σ4 vs1) (wipe σV4 vs1) := relS_wipe (r4.stb s47) vs1
        refine gw1.run _ x1 (wD σ4 vs1) hc1 _ H7 _ _ rd1 rw7 qj fun σ8 σV8 q8 r8 w8 => ⟨w8.trans (wipe_wipe σV4 vs1), ?_⟩
        refine ⟨σ8, hc1, _, ⟨r0.go.trans (gB.trans g7), r8⟩, q8, fun b9 h9 H9 q9 g9 => ?_⟩
        have g79 := g7.trans g9
        have fD9 := g79.fr D _ eD nD
        cases b9 with
        | false => exact iteF ⟨h9, acc, accV, gc.trans g79, sc.trans g79.st, fD9.2, fD9.1, ra.stb g79.st, (by simpa [dIte] using q9)⟩
        | true =>
          refine iteT ⟨σ8, h9, _, ⟨r0.go.trans (gB.trans g79), r8.stb g9.st⟩, (by simpa [dIte] using q9), fun yd hA yv HA qA gA rA => ?_⟩
          have g7A := g79.trans gA
          have fDA := g7A.fr D _ eD nD
          refine ⟨accV, fDA.1, by rw [← ra.length]; exact qA.1, hA, acc ++ [yd], accV ++ [yv], go_hs (gc.trans g7A) hD fDA.2 fDA.1 trivial, (sc.trans g7A.st).trans (Stb.set fDA.1 trivial), fDA.2, upd_same, ?_, qA.2⟩
          exact ((ra.stb g7A.st).append (.cons rA .nil)).stb (Stb.set fDA.1 trivial)
      · rw [List.drop_eq_nil_of_le (by omega)] at qj
        obtain ⟨hcj, qj⟩ := qj
        exact .inl ⟨jo1.stop j Hc hc1 sc gc.rh hcj (by omega), hc1, acc, accV, gc, nD, eD, ra, qj⟩
  · rw [List.drop_eq_nil_of_le (by omega)] at ql
    obtain ⟨hc, ql⟩ := ql
    have g02 := g1'.trans g12
    refine .inl ⟨jo.stop i H' h' g12.st g12.rh hc (by omega), o _ _ _ H' (ql D nD) ⟨g02.st, fun a o' e' n => ?_, fun b o' e' => ?_⟩ (.v _)⟩
    · have z : a ≠ D := ne_of_none (g1'.fr a o' e' n).1 hD
      exact ⟨(g02.fr a o' e' n).1, by rw [put_ne z]; exact (g02.fr a o' e' n).2⟩
    · by_cases z : b = D
      · subst z
        rw [put_same] at e'; cases e'
        exact ⟨_, eD, accV, rfl, ra⟩
      · rw [put_ne z] at e'
        exact g02.rh b o' e'
theorem de_lc2 {elt tg iter tg1 iter1 : Expr} {ifs ifs1 : List Expr} {scope : Scope} {own : List (Str × Nat)} {vs1 : List Nat} {pos : Pos} {wi wi1 : ID} {gV gV1 : TG} {g g1 : GD} {tt tt1 : TD} {te : ED} (rg : Rg X B E) (hN : X.N.Nodup) (hi : DI X B tg iter wi) (ok : BlkOk X.N X.env.scope scope own)
    (hg : ∀ (s : Shared) (H : Hp) (C : Addr) (cl : List (Str × Addr)) (fp : List Addr), PG (X.blk s H scope (compEnvC scope cl C X.env) fp) tg gV) (gw : GW X.gv gV g (own.map (·.2)))
    (ht : ∀ (s : Shared) (H : Hp) (C : Addr) (cl : List (Str × Addr)) (fp : List Addr), DTs (X.blk s H scope (compEnvC scope cl C X.env) fp) B ifs tt)
    (hi1 : ∀ (s : Shared) (H : Hp) (C : Addr) (cl : List (Str × Addr)) (fp : List Addr), DI (X.blk s H scope (compEnvC scope cl C X.env) fp) B tg1 iter1 wi1)
    (hg1 : ∀ (s : Shared) (H : Hp) (C : Addr) (cl : List (Str × Addr)) (fp : List Addr), PG (X.blk s H scope (compEnvC scope cl C X.env) fp) tg1 gV1) (gw1 : GW X.gv gV1 g1 vs1)
    (ht1 : ∀ (s : Shared) (H : Hp) (C : Addr) (cl : List (Str × Addr)) (fp : List Addr), DTs (X.blk s H scope (compEnvC scope cl C X.env) fp) B ifs1 tt1)
    (he : ∀ (s : Shared) (H : Hp) (C : Addr) (cl : List (Str × Addr)) (fp : List Addr), DE (X.blk s H scope (compEnvC scope cl C X.env) fp) B elt te) (hv : ∀ i ∈ vs1, i ∈ own.map (·.2) := by decide) (hs : ∀ x, foldedSetIterable iter X.env x = pure x := by intro _; rfl) (hs1 : ∀ env x, foldedSetIterable iter1 env x = pure x := by intro _ _; rfl) :
    DE X B (.ListComp elt [⟨tg, iter, ifs, 0⟩, ⟨tg1, iter1, ifs1, 0⟩] scope pos) (dLc2 wi g tt wi1 g1 tt1 te (own.map (·.2)) vs1) :=
  PE.imp (pe_lc2 (tt := lT X.gv B tt) (tt1 := lT X.gv B tt1) (te := lE X.gv B te) (wi1 := lI X.gv B wi1) rg.calm hN hi ok hv hg ht hi1 hg1 ht1 he hs hs1) fun σV H QV q => lc2_of gw gw1 q
theorem ds_setLc2 {i : Nat} {y : Str} {py : Pos} {elt tg iter tg1 iter1 : Expr} {ifs ifs1 : List Expr} {scope : Scope} {own : List (Str × Nat)} {vs1 : List Nat} {pos spos : Pos} {wi wi1 : ID} {gV gV1 : TG} {g g1 : GD} {tt tt1 : TD} {te : ED} (rg : Rg X B E) (hN : X.N.Nodup) (hy : X.N[i]? = some y) (hyl : X.env.scope.names.lookup y = some .local)
    (hsw : swapsWith (.ListComp elt [⟨tg, iter, ifs, 0⟩, ⟨tg1, iter1, ifs1, 0⟩] scope pos) (some (.Name y py)) spos.line X.env = pure true) (hi : DI X B tg iter wi) (ok : BlkOk X.N X.env.scope scope own)
    (hg : ∀ (s : Shared) (H : Hp) (C : Addr) (cl : List (Str × Addr)) (fp : List Addr), PG (X.blk s H scope (compEnvC scope cl C X.env) fp) tg gV) (gw : GW X.gv gV g (own.map (·.2)))
    (ht : ∀ (s : Shared) (H : Hp) (C : Addr) (cl : List (Str × Addr)) (fp : List Addr), DTs (X.blk s H scope (compEnvC scope cl C X.env) fp) B ifs tt)
    (hi1 : ∀ (s : Shared) (H : Hp) (C : Addr) (cl : List (Str × Addr)) (fp : List Addr), DI (X.blk s H scope (compEnvC scope cl C X.env) fp) B tg1 iter1 wi1)
    (hg1 : ∀ (s : Shared) (H : Hp) (C : Addr) (cl : List (Str × Addr)) (fp : List Addr), PG (X.blk s H scope (compEnvC scope cl C X.env) fp) tg1 gV1) (gw1 : GW X.gv gV1 g1 vs1)
    (ht1 : ∀ (s : Shared) (H : Hp) (C : Addr) (cl : List (Str × Addr)) (fp : List Addr), DTs (X.blk s H scope (compEnvC scope cl C X.env) fp) B ifs1 tt1)
    (he : ∀ (s : Shared) (H : Hp) (C : Addr) (cl : List (Str × Addr)) (fp : List Addr), DE (X.blk s H scope (compEnvC scope cl C X.env) fp) B elt te) (hv : ∀ i ∈ vs1, i ∈ own.map (·.2) := by decide) (hs : ∀ x, foldedSetIterable iter X.env x = pure x := by intro _; rfl) (hs1 : ∀ env x, foldedSetIterable iter1 env x = pure x := by intro _ _; rfl) :
    DS X B (.Assign [.Name y py] (.ListComp elt [⟨tg, iter, ifs, 0⟩, ⟨tg1, iter1, ifs1, 0⟩] scope pos) spos) (dAsg (dLc2 wi g tt wi1 g1 tt1 te (own.map (·.2)) vs1) (nG i)) :=
  PS.imp (ps_setLc2 (tt := lT X.gv B tt) (tt1 := lT X.gv B tt1) (te := lE X.gv B te) (wi1 := lI X.gv B wi1) rg.calm hN hy hyl hsw hi ok hv hg ht hi1 hg1 ht1 he hs hs1) fun DV σV H ⟨σ, h, D, r0, q, o⟩ => lc2_of (B := B) gw gw1 ⟨σ, h, _, r0, q, fun d h1 v H1 q1 g rp => o.nx _ _ _ _ q1 g (by rw [sS_eq]; exact (r0.next g).s.set rp)⟩
end
/-- two clauses that leave the heap as it is: for each item the list of its inner values -/
theorem cmp2_of {g : GD} {tt : TD} {wi1 : ID} {g1 : GD} {tt1 : TD} {te : ED} {vs1 : List Nat} {chk : Hd → Prop} {items : List D} {σ : Sd} {h : Hd} {Q : List D → Hd → Prop} {b : BxC Q} (f : D → List D) (hc : chk h) (hl : (items.flatMap f).length ≤ 1000000)
    (step : ∀ x, x ∈ items → ∀ (S : List D → Hd → Prop) (N : Hd → Prop) (acc : List D), acc.length + (f x).length ≤ 1000000 → S (acc ++ f x) h → g x σ h fun σ2 h2 => tt σ2 h2 fun c h3 => dIte (c = true) (wi1 σ2 h3 fun items1 chk1 h4 => dComp g1 tt1 te chk1 items1 acc (wD σ2 vs1) h4 S) (N h3) .mk)
    (q : Q (items.flatMap f) h) : cmp2 g tt wi1 g1 tt1 te vs1 chk items σ h Q b := by
  suffices ∀ (l acc : List D), (∀ x, x ∈ l → x ∈ items) → acc.length + (l.flatMap f).length ≤ 1000000 → Q (acc ++ l.flatMap f) h → dComp2 g tt wi1 g1 tt1 te vs1 chk l acc σ h Q from this items [] (fun _ h => h) (by simpa using hl) (by simpa using q)
  intro l
  induction l with
  | nil => intro acc _ _ q; exact ⟨hc, by simpa using q⟩
  | cons x r ih =>
    intro acc hm hz q
    rw [List.flatMap_cons, List.length_append] at hz
    refine ⟨hc, step x (hm x List.mem_cons_self) _ _ acc (by omega) (ih _ (fun z hz => hm z (List.mem_cons_of_mem _ hz)) (by rw [List.length_append]; omega) ?_)⟩
    rw [List.flatMap_cons] at q
    rw [List.append_assoc]
    exact q
/-- the inner clause, each item made to a value -/
theorem comp_map {g : GD} {tt : TD} {te : ED} {chk : Hd → Prop} {σ : Sd} {h : Hd} {Q : List D → Hd → Prop} (f : D → D) (hc : chk h) : ∀ {items acc : List D}, acc.length + items.length ≤ 1000000 →
    (∀ x, x ∈ items → ∀ (S : D → Hd → Prop) (N : Hd → Prop), S (f x) h → g x σ h fun σ2 h2 => tt σ2 h2 fun c h3 => dIte (c = true) (te σ2 h3 S) (N h3) .mk) → Q (acc ++ items.map f) h → dComp g tt te chk items acc σ h Q
  | [], acc, _, _, q => ⟨hc, by simpa using q⟩
  | x :: r, acc, hl, step, q => by
    rw [List.length_cons] at hl
    refine ⟨hc, step x List.mem_cons_self _ _ ⟨Nat.lt_of_lt_of_le (show acc.length < 1000001 by omega) (by decide), comp_map f hc (by rw [List.length_append]; simp only [List.length_cons, List.length_nil]; omega) (fun z hz => step z (List.mem_cons_of_mem _ hz)) ?_⟩⟩
    rw [List.append_assoc]
    exact q
/-- .. that makes these values, one of each item -/
theorem cmp_list {g : GD} {tt : TD} {te : ED} {chk : Hd → Prop} {items : List D} {σ : Sd} {h : Hd} {Q : List D → Hd → Prop} {b : BxC Q} (ys : List D) (hc : chk h) (hl : ys.length = items.length) (hz : items.length ≤ 1000000)
    (step : ∀ (i : Nat) (x y : D), items[i]? = some x → ys[i]? = some y → ∀ (S : D → Hd → Prop) (N : Hd → Prop), S y h → g x σ h fun σ2 h2 => tt σ2 h2 fun c h3 => dIte (c = true) (te σ2 h3 S) (N h3) .mk)
    (q : Q ys h) : cmp g tt te chk items σ h Q b := by
  suffices ∀ (l m acc : List D) (k : Nat), l = items.drop k → m = ys.drop k → acc.length = k → k ≤ items.length → Q (acc ++ m) h → dComp g tt te chk l acc σ h Q from this items ys [] 0 rfl rfl rfl (Nat.zero_le _) q
  intro l
  induction l with
  | nil =>
    intro m acc k e1 e2 ek hk q
    have h1 : items.length ≤ k := by
      have := congrArg List.length e1
      rw [List.length_nil, List.length_drop] at this
      omega
    have h2 : m = [] := by rw [e2]; exact List.drop_eq_nil_of_le (by omega)
    subst h2
    exact ⟨hc, by simpa using q⟩
  | cons x r ih =>
    intro m acc k e1 e2 ek hk q
    have hlt : k < items.length := by
      have := congrArg List.length e1
      rw [List.length_cons, List.length_drop] at this
      omega
    rw [List.drop_eq_getElem_cons hlt] at e1
    injection e1 with e3 e4
    have hlt' : k < ys.length := by omega
    rw [List.drop_eq_getElem_cons hlt'] at e2
    subst e2
    refine ⟨hc, step k x ys[k] (by rw [e3]; exact List.getElem?_eq_getElem hlt) (List.getElem?_eq_getElem hlt') _ _ ⟨Nat.lt_of_lt_of_le (show acc.length < 1000001 by omega) (by decide), ?_⟩⟩
    refine ih (ys.drop (k + 1)) (acc ++ [ys[k]]) (k + 1) e4 rfl (by rw [List.length_append, ek]; rfl) hlt ?_
    rw [List.append_assoc]
    exact q
def rds9 := And.intro @dLc2.eq_1 trivial
end DL
/-! DLm: dicts made by comprehensions of one clause or two -/
namespace DL
open PySem L2 PySem.Spec PyProof.Rows
/-! ### two clauses: the model's turns -/
abbrev dcX (kx vx t0 i0 : Expr) (f0 : List Expr) (t1 i1 : Expr) (f1 : List Expr) (sc : Scope) (p : Pos) : Expr := .DictComp kx vx [⟨t0, i0, f0, 0⟩, ⟨t1, i1, f1, 0⟩] sc p
/-- a clause's tests -/
abbrev tsts (fs : List Expr) (env : Env) : Sem Bool := forIn fs true fun c r => if r = true then do let ok ← isTrue c env (eval c env); pure (ForInStep.yield ok) else pure (ForInStep.yield r)
section
variable {kx vx t0 i0 t1 i1 : Expr} {f0 f1 : List Expr} {sc : Scope} {p : Pos} {it : Value} {D : Addr} {env : Env}
theorem dcTurn0 : compTurn (dcX kx vx t0 i0 f0 t1 i1 f1 sc p) 0 it (.ref D) env = (do
    standAt i0.pos
    match ← pyNext it with
    | none => pure (.done .next)
    | some v =>
      letOwnedTupleGo t0 it v
      assign t0 env v
      let ok ← tsts f0 env
      if ok then
        let x ← eval i1 env
        standAt i1.pos
        let x ← foldedSetIterable i1 env x
        let _ ← runOwn (.compStart (dcX kx vx t0 i0 f0 t1 i1 f1 sc p) 1 (← holding [x] (pyIter x)) (.ref D) env) env
      again (.compLoop (dcX kx vx t0 i0 f0 t1 i1 f1 sc p) 0 it (.ref D) env)) := by rfl
theorem dcTurn1 : compTurn (dcX kx vx t0 i0 f0 t1 i1 f1 sc p) 1 it (.ref D) env = (do
    standAt i1.pos
    match ← pyNext it with
    | none => pure (.done .next)
    | some v =>
      letOwnedTupleGo t1 it v
      assign t1 env v
      let ok ← tsts f1 env
      if ok then
        (do
          let a ← eval kx env
          let b ← holding [a] (eval vx env)
          standAt { kx.pos with endLine := vx.pos.endLine, endCol := vx.pos.endCol }
          holding [a, b] (dictSet D a b))
      again (.compLoop (dcX kx vx t0 i0 f0 t1 i1 f1 sc p) 1 it (.ref D) env)) := by rfl
variable {prog : Program} {w : World} {A : Around} {R : Result → Shared → Prop} {s : Shared}
/-- where an exception of a turn goes -/
abbrev ex (prog : Program) (w : World) (A : Around) (env : Env) (R : Result → Shared → Prop) : Value → Shared → Prop := notedBy (model prog w) A env fun e z => R (.error e) z
theorem dcLoop0 (hs : ∀ x, foldedSetIterable i1 env x = pure x) (J : Nat → Shared → Prop)
    (turn : ∀ m z, J m z → wpAny (model prog w) A (pyNext it) (fun r z1 => match r with
      | none => R (.ok .next) z1
      | some v => wpAny (model prog w) A (letOwnedTupleGo t0 it v) (fun _ z2 => wpAny (model prog w) A (assign t0 env v) (fun _ z3 => wpAny (model prog w) A (tsts f0 env) (fun ok z4 =>
          if ok = true then wpAny (model prog w) A (eval i1 env) (fun x z5 => wpAny (model prog w) A (pyIter x) (fun j z6 =>
            codeAny (model prog w) A (.compStart (dcX kx vx t0 i0 f0 t1 i1 f1 sc p) 1 j (.ref D) env) (fun r z7 => match r with
              | .ok _ => ∃ l, l < m ∧ J l z7
              | .error _ => False) z6) (ex prog w A env R) z5) (ex prog w A env R) z4
          else ∃ l, l < m ∧ J l z4) (ex prog w A env R) z3) (ex prog w A env R) z2) (ex prog w A env R) z1) (ex prog w A env R) z)
    (m : Nat) (h : J m s) : codeAny (model prog w) A (.compLoop (dcX kx vx t0 i0 f0 t1 i1 f1 sc p) 0 it (.ref D) env) R s := by
  refine codeAny_loop rfl J (fun m z hJ => ?_) m h
  show wpAny _ A ((compTurn (dcX kx vx t0 i0 f0 t1 i1 f1 sc p) 0 it (.ref D) env).onRaise (fun x => do noteFrame x env; theTreesLotGoes x)) _ _ z
  refine wpAny_noted ?_
  rw [dcTurn0]
  refine wpAny_bind (wpAny_standAt (wpAny_bind (thn (turn m z hJ) fun r z1 g1 => ?_)))
  cases r with
  | none => exact wpAny_pure g1
  | some v =>
    refine wpAny_bind (thn g1 fun _ z2 g2 => wpAny_bind (thn g2 fun _ z3 g3 => wpAny_bind (thn g3 fun ok z4 g4 => ?_)))
    cases ok with
    | false => exact wpAny_pure ⟨rfl, g4⟩
    | true =>
      refine wpAny_bind (thn g4 fun x z5 g5 => wpAny_bind (wpAny_standAt (wpAny_bind (wpAny_of_eq (hs x) (wpAny_bind (wpAny_holding (thn g5 fun j z6 g6 => ?_)))))))
      refine wpAny_bind (wpAny_runOwn ?_)
      rw [Around.mark_none]
      refine codeAny_mono g6 fun r z7 g7 => ?_
      cases r with
      | error e => exact g7.elim
      | ok f =>
        first
          | exact wpAny_bind (wpAny_pure (wpAny_pure ⟨rfl, g7⟩))
          | exact wpAny_pure ⟨rfl, g7⟩
theorem dcLoop1 (J : Nat → Shared → Prop)
    (turn : ∀ m z, J m z → wpAny (model prog w) A (pyNext it) (fun r z1 => match r with
      | none => R (.ok .next) z1
      | some v => wpAny (model prog w) A (letOwnedTupleGo t1 it v) (fun _ z2 => wpAny (model prog w) A (assign t1 env v) (fun _ z3 => wpAny (model prog w) A (tsts f1 env) (fun ok z4 =>
          if ok = true then wpAny (model prog w) A (eval kx env) (fun a z5 => wpAny (model prog w) A (eval vx env) (fun b z6 =>
            wpAny (model prog w) A (dictSet D a b) (fun _ z7 => ∃ l, l < m ∧ J l z7) (ex prog w A env R) z6) (ex prog w A env R) z5) (ex prog w A env R) z4
          else ∃ l, l < m ∧ J l z4) (ex prog w A env R) z3) (ex prog w A env R) z2) (ex prog w A env R) z1) (ex prog w A env R) z)
    (m : Nat) (h : J m s) : codeAny (model prog w) A (.compLoop (dcX kx vx t0 i0 f0 t1 i1 f1 sc p) 1 it (.ref D) env) R s := by
  refine codeAny_loop rfl J (fun m z hJ => ?_) m h
  show wpAny _ A ((compTurn (dcX kx vx t0 i0 f0 t1 i1 f1 sc p) 1 it (.ref D) env).onRaise (fun x => do noteFrame x env; theTreesLotGoes x)) _ _ z
  refine wpAny_noted ?_
  rw [dcTurn1]
  refine wpAny_bind (wpAny_standAt (wpAny_bind (thn (turn m z hJ) fun r z1 g1 => ?_)))
  cases r with
  | none => exact wpAny_pure g1
  | some v =>
    refine wpAny_bind (thn g1 fun _ z2 g2 => wpAny_bind (thn g2 fun _ z3 g3 => wpAny_bind (thn g3 fun ok z4 g4 => ?_)))
    cases ok with
    | false => exact wpAny_pure ⟨rfl, g4⟩
    | true =>
      exact wpAny_bind (wpAny_bind (thn g4 fun a z5 g5 => wpAny_bind (wpAny_holding (thn g5 fun b z6 g6 => wpAny_bind (wpAny_standAt (wpAny_holding (thn g6 fun _ z7 g7 => wpAny_pure ⟨rfl, g7⟩)))))))
theorem dcStart1 (h0 : codeAny (model prog w) A (.compLoop (dcX kx vx t0 i0 f0 t1 i1 f1 sc p) 1 it (.ref D) env) R s)
    (h : wpAny (model prog w) A (pyIter it) (fun j z => codeAny (model prog w) A (.compLoop (dcX kx vx t0 i0 f0 t1 i1 f1 sc p) 1 j (.ref D) env) R z) (ex prog w A env R) s) :
    codeAny (model prog w) A (.compStart (dcX kx vx t0 i0 f0 t1 i1 f1 sc p) 1 it (.ref D) env) R s := by
  refine codeAny_of_tree ?_
  show wpAny _ _ ((compStart (dcX kx vx t0 i0 f0 t1 i1 f1 sc p) 1 it (.ref D) env).onRaise (fun x => do noteFrame x env; standAt theWindowsPlace)) _ _ s
  refine wpAny_notedAt ?_
  unfold compStart
  show wpAny _ _ (ask >>= _) _ _ s
  refine wpAny_bind (wpAny_askSetting (wpAny_ite ?_))
  split
  · first
      | exact wpAny_pure (And.intro rfl h0)
      | exact wpAny_bind (wpAny_pure (wpAny_pure (And.intro rfl h0)))
  · refine wpAny_bind (wpAny_rule ?_)
    show wpAny _ _ (standAt i1.pos >>= _) _ _ s
    exact wpAny_bind (wpAny_standAt (wpAny_bind (thn h fun j z g => wpAny_pure (And.intro rfl g))))
end
/-! ### the rule, over values -/
section
variable {X : Cx}
/-- {k: v for tg in iter if .. for tg1 in iter1 if ..} -/
def tDc2 (wi : TI) (g : TG) (tt : TT) (wi1 : TI) (g1 : TG) (tt1 : TT) (tk tv : TE) (vs vs1 : List Nat) : TE := fun σ H Q => wi σ H fun J H1 => ∀ D, H1 D = none → ∃ W : Nat → Nat → Hp → Prop, (∃ m, W 0 m (upd H1 D (.dK []))) ∧ ∀ i m H, W i m H →
  (J.stop i H ∧ Q (.ref D) H) ∨ (J.go i H ∧ ∃ Y : Hp → Prop, (∀ H', Y H' → ∃ l, l < m ∧ W (i + 1) l H') ∧ ∀ x H', J.yld i H x H' → g x (wipe σ vs) H' fun σ2 H2 => wipe σ2 vs = wipe σ vs ∧ tt σ2 H2 fun b H3 =>
    if b = true then wi1 σ2 H3 fun J1 H4 => ∃ W1 : Nat → Nat → Hp → Prop, (∃ m, W1 0 m H4) ∧ ∀ j k H, W1 j k H →
      (J1.stop j H ∧ Y H) ∨ (J1.go j H ∧ ∃ Y1 : Hp → Prop, (∀ H', Y1 H' → ∃ l, l < k ∧ W1 (j + 1) l H') ∧ ∀ x H', J1.yld j H x H' → g1 x (wipe σ2 vs1) H' fun σ3 H5 => wipe σ3 vs1 = wipe σ2 vs1 ∧ tt1 σ3 H5 fun b H6 =>
        if b = true then tk σ3 H6 fun y H7 => tv σ3 H7 fun z H8 => ∃ kvs key, y = kV key ∧ H8 D = some (.dK kvs) ∧ kvs.length < sizeLine ∧ Y1 (upd H8 D (.dK (putK kvs key z))) else Y1 H6)
    else Y H3)
theorem pe_dc2 {kx vx t0 i0 t1 i1 : Expr} {f0 f1 : List Expr} {sc : Scope} {own : List (Str × Nat)} {vs1 : List Nat} {p : Pos} {wi wi1 : TI} {g g1 : TG} {tt tt1 : TT} {tk tv : TE}
    (hc : X.calm = true) (hN : X.N.Nodup) (hi : PI X t0 i0 wi) (ok : BlkOk X.N X.env.scope sc own) (hv : ∀ i ∈ vs1, i ∈ own.map (·.2))
    (hg : ∀ (s : Shared) (H : Hp) (C : Addr) (cl : List (Str × Addr)) (fp : List Addr), PG (X.blk s H sc (compEnvC sc cl C X.env) fp) t0 g)
    (ht : ∀ (s : Shared) (H : Hp) (C : Addr) (cl : List (Str × Addr)) (fp : List Addr), PTs (X.blk s H sc (compEnvC sc cl C X.env) fp) f0 tt)
    (hi1 : ∀ (s : Shared) (H : Hp) (C : Addr) (cl : List (Str × Addr)) (fp : List Addr), PI (X.blk s H sc (compEnvC sc cl C X.env) fp) t1 i1 wi1)
    (hg1 : ∀ (s : Shared) (H : Hp) (C : Addr) (cl : List (Str × Addr)) (fp : List Addr), PG (X.blk s H sc (compEnvC sc cl C X.env) fp) t1 g1)
    (ht1 : ∀ (s : Shared) (H : Hp) (C : Addr) (cl : List (Str × Addr)) (fp : List Addr), PTs (X.blk s H sc (compEnvC sc cl C X.env) fp) f1 tt1)
    (hk : ∀ (s : Shared) (H : Hp) (C : Addr) (cl : List (Str × Addr)) (fp : List Addr), PE (X.blk s H sc (compEnvC sc cl C X.env) fp) kx tk)
    (he : ∀ (s : Shared) (H : Hp) (C : Addr) (cl : List (Str × Addr)) (fp : List Addr), PE (X.blk s H sc (compEnvC sc cl C X.env) fp) vx tv)
    (hs : ∀ x, foldedSetIterable i0 X.env x = pure x) (hs1 : ∀ env x, foldedSetIterable i1 env x = pure x) :
    PE X (dcX kx vx t0 i0 f0 t1 i1 f1 sc p) (tDc2 wi g tt wi1 g1 tt1 tk tv (own.map (·.2)) vs1) := by
  refine ⟨fun pins s σ H Q I h => ?_⟩
  rw [arm_eval_DictComp]
  have free : ∀ y ∈ sc.names, y.2 = .free → ∃ c, X.env.cells.lookup y.1 = some c := fun y hy e => (ok.free y hy e).elim (fun k => I.ok.has _ (.inl k)) fun k => I.ok.has _ (.inr k)
  refine wpAny_comprehension_free rfl hs (closure_ok free) ok.kind (fun y hy e => by rw [ok.uniq y hy, e]) (thn (hi.run pins s σ H _ I h) fun _ _ hx => thn hx fun _ sA hA => ?_)
  obtain ⟨it, fp, tn, J, HA, rfl, IA, T, stA, fA, q⟩ := hA
  refine wpAny_newObj_type (newEnv_comp ?_)
  -- the new dict
  obtain ⟨D, hD⟩ : ∃ D, sA.heap.objs.size = D := ⟨_, rfl⟩
  rw [hD]
  have nD : HA D = none := IA.hok.fresh (Nat.le_of_eq hD)
  obtain ⟨W, ⟨mz, wz⟩, turn⟩ := q D nD
  generalize hB : ({ sA with heap := sA.heap.push { cls := .type "dict", data := .dict #[] } } : Shared) = sB
  obtain ⟨HB, hHB⟩ : ∃ HB, upd HA D (.dK []) = HB := ⟨_, rfl⟩
  rw [hHB] at wz
  have eB : sB.heap = sA.heap.push { cls := .type "dict", data := .dict #[] } := by rw [← hB]
  have IB : L2.Inv X pins σ HB sB := by
    rw [← hB, ← hHB]
    refine IA.laid (t' := sA.toks) (fun _ _ e => Heap.get?_push_of_some _ e) (Nat.le_of_eq hD) ?_
    rw [← hD]
    exact dk_empty sA.heap IA.big
  have fB : ∀ b ∈ fp, FpOk X pins HB b ∧ b < sB.heap.objs.size := fun b hb => by
    obtain ⟨o, eo, _⟩ := T.obj _ _ stA b hb
    have lt := Heap.lt_size eo
    refine ⟨⟨?_, (fA b hb).2⟩, by rw [eB, Heap.size_push]; exact Nat.lt_succ_of_lt lt⟩
    rw [← hHB, upd_ne (by rw [← hD]; exact Nat.ne_of_lt lt)]
    exact (fA b hb).1
  have stB : tn 0 sB.heap := T.keep _ _ _ stA fun b _ o e => by rw [eB]; exact Heap.get?_push_of_some _ e
  have IC := block_start IB ok hN fB
  have rg := hg sB HB sB.heap.objs.size (cellsFrom (sB.heap.objs.size + 1) sc.names (cloFrom X.env.cells sc.names [])) fp
  have rt := ht sB HB sB.heap.objs.size (cellsFrom (sB.heap.objs.size + 1) sc.names (cloFrom X.env.cells sc.names [])) fp
  have ri1 := hi1 sB HB sB.heap.objs.size (cellsFrom (sB.heap.objs.size + 1) sc.names (cloFrom X.env.cells sc.names [])) fp
  have rg1 := hg1 sB HB sB.heap.objs.size (cellsFrom (sB.heap.objs.size + 1) sc.names (cloFrom X.env.cells sc.names [])) fp
  have rt1 := ht1 sB HB sB.heap.objs.size (cellsFrom (sB.heap.objs.size + 1) sc.names (cloFrom X.env.cells sc.names [])) fp
  have rk := hk sB HB sB.heap.objs.size (cellsFrom (sB.heap.objs.size + 1) sc.names (cloFrom X.env.cells sc.names [])) fp
  have re := he sB HB sB.heap.objs.size (cellsFrom (sB.heap.objs.size + 1) sc.names (cloFrom X.env.cells sc.names [])) fp
  show codeAny _ _ (.compStart (dcX kx vx t0 i0 f0 t1 i1 f1 sc p) 0 (.ref it) (.ref D) (compEnvC sc (cellsFrom (sB.heap.objs.size + 1) sc.names (cloFrom X.env.cells sc.names [])) sB.heap.objs.size X.env)) (compPost (model X.prog X.w) X.A X.xe none _ (.ref D) sB.heap.objs.size) { sB with heap := pushCells (sB.heap.push { cls := .type "dict", data := .dict #[] }) sc.names }
  generalize hce : compEnvC sc (cellsFrom (sB.heap.objs.size + 1) sc.names (cloFrom X.env.cells sc.names [])) sB.heap.objs.size X.env = ce at IC rg rt ri1 rg1 rt1 rk re ⊢
  have eL : ce.locals = sB.heap.objs.size := by rw [← hce] <;> rfl
  generalize hC : ({ sB with heap := pushCells (sB.heap.push { cls := .type "dict", data := .dict #[] }) sc.names } : Shared) = sC at IC ⊢
  have nfp : ∀ b ∈ fp, HB b = none := fun b hb => (fB b hb).1.1
  have stC : tn 0 sC.heap := T.keep _ _ _ stB fun b _ o e => by rw [← hC]; exact pushCells_keeps _ _ _ _ (Heap.get?_push_of_some _ e)
  have own0 : ∀ {σ' : L2.St} {H' : Hp} {s' : Shared}, L2.Inv (X.blk sB HB sc ce fp) [] σ' H' s' → (∀ b ∈ fp, H' b = none) → ∀ b ∈ fp, FpOk (X.blk sB HB sc ce fp) [] H' b := fun {σ' H' s'} I' hn b hb =>
    ⟨hn b hb, (I'.ok.exf b hb).1, I'.ok.exfs b hb, .inl hb, fun x c e => (I'.ok.exf b hb).2 x c e, fun r hr => absurd (show r ∈ ([] : List (Addr × Obj)) ++ [] from hr) (by simp)⟩
  -- what stands ahead of each outer turn
  let Jo : Nat → Shared → Prop := fun m z => ∃ i H', L2.Inv (X.blk sB HB sc ce fp) [] (wipe σ (own.map (·.2))) H' z ∧ tn i z.heap ∧ (∀ b ∈ fp, H' b = none) ∧ W i m H'
  have loop : codeAny (model X.prog X.w) X.A (.compLoop (dcX kx vx t0 i0 f0 t1 i1 f1 sc p) 0 (.ref it) (.ref D) ce) (compPost (model X.prog X.w) X.A X.xe none (EP X pins σ Q) (.ref D) sB.heap.objs.size) sC := by
    refine dcLoop0 (hs1 ce) Jo ?_ mz ⟨0, HB, IC, stC, nfp, wz⟩
    rintro m z ⟨i, H5, I5, st5, n5, w5⟩
    rcases turn i m H5 w5 with ⟨stop, qq⟩ | ⟨go, Y, hY, step⟩
    · refine thnF (T.done (X.blk sB HB sc ce fp) rfl rfl rfl hc i [] z _ H5 (fun _ _ => False) I5 (own0 I5 n5) st5 stop) fun r z6 ⟨hr, I6⟩ => ?_
      subst hr
      have I7 : L2.Inv X pins σ H5 z6 := IB.call' (ch := fp) I6.os I6.base I6.hok I6.bare fun b hb => ⟨(fB b hb).1.2.2.2.1, (fB b hb).1.2.1, (fB b hb).1.2.2.2.2.1, (fB b hb).1.2.2.2.2.2⟩
      have nC : H5 sB.heap.objs.size = none := by
        have free6 : H5 ce.locals = none := I6.free
        rwa [eL] at free6
      obtain ⟨m6, hn, _⟩ := I6.loc
      have hn : z6.heap.Ns ce.locals m6 := hn
      rw [eL] at hn
      refine ⟨m6, hn, fun h'' sb => ?_⟩
      obtain ⟨c0, c1, c2, c3, c4, c5⟩ := IB.fpOk (H' := H5) (Nat.le_refl _) nC
      exact ⟨.ref D, H5, I7.turned (t' := z6.toks) (fun b o hb e => (sb.2 b hb).trans e) c0 c1 c3 c4 c5, rfl, qq⟩
    · refine thnF (T.item (X.blk sB HB sc ce fp) rfl rfl rfl hc i [] z _ H5 (fun _ _ => False) I5 (own0 I5 n5) st5 go) fun r z6 ⟨u, hr, g6⟩ => ?_
      subst hr
      refine thnF g6 fun _ z7 ⟨x, H7, I7, r7, y7, st7, n7⟩ => ?_
      have P7 := I7.pinned (own0 I7 n7) (T.obj _ _ st7)
      refine thnF (rg.run _ z7 _ H7 x u _ P7 r7 (step x H7 y7)) fun _ z8 ⟨σ8, H8, I8, w8, q8⟩ => ?_
      refine thnF (rt.run _ z8 σ8 H8 _ I8 q8) fun b z9 ⟨H9, I9, q9⟩ => ?_
      -- a turn's end, from slots that know what the block knew
      have done : ∀ {τ : L2.St} {z' : Shared} {H' : Hp}, L2.Inv (X.blk sB HB sc ce fp) ([] ++ pinsAt fp z7.heap) τ H' z' → (wipe σ (own.map (·.2))).length = τ.length → (∀ (j : Nat) v, (wipe σ (own.map (·.2)))[j]? = some (some v) → τ[j]? = some (some v)) → Y H' → ∃ l, l < m ∧ Jo l z' := by
        intro τ z' H' I' hl hkn yh
        obtain ⟨l, hlm, w'⟩ := hY H' yh
        have pn : ∀ b ∈ fp, ∀ o, z7.heap.get? b = some o → z'.heap.get? b = some o ∧ H' b = none := fun b hb o e =>
          ⟨(I'.pin (b, o) (List.mem_append_right _ (List.mem_append_right _ (mem_pinsAt hb e)))).1, (I'.pin (b, o) (List.mem_append_right _ (List.mem_append_right _ (mem_pinsAt hb e)))).2.1⟩
        refine ⟨l, hlm, i + 1, H', (I'.unpinned (pins := [])).weak hl hkn, T.keep _ _ _ st7 fun b hb o e => (pn b hb o e).1, fun b hb => ?_, w'⟩
        obtain ⟨o, e, _⟩ := T.obj _ _ st7 b hb
        exact (pn b hb o e).2
      have l8 : (wipe σ (own.map (·.2))).length = σ8.length := by rw [← w8, wipe_length]
      have k8 : ∀ (j : Nat) v, (wipe σ (own.map (·.2)))[j]? = some (some v) → σ8[j]? = some (some v) := fun j v e => by
        rw [← w8] at e
        exact (wipe_some e).1
      have k9 : ∀ (j : Nat) v, (wipe σ (own.map (·.2)))[j]? = some (some v) → (wipe σ8 vs1)[j]? = some (some v) := fun j v e => by
        rw [← w8] at e
        obtain ⟨a1, a2⟩ := wipe_some e
        rw [wipe_out fun hm => a2 (hv j hm)]
        exact a1
      by_cases hb : b = true
      · subst hb
        rw [if_pos rfl] at q9 ⊢
        refine thnF (ri1.run _ z9 σ8 H9 _ I9 q9) fun _ zA hx => thnF hx fun _ zB hB' => ?_
        obtain ⟨it1, fp1, tn1, J1, HI, rfl, II, T1, stI, fI, W1, ⟨mi, wi0⟩, turn1⟩ := hB'
        have own1 : ∀ {H' : Hp}, (∀ b ∈ fp1, H' b = none) → ∀ b ∈ fp1, FpOk (X.blk sB HB sc ce fp) ([] ++ pinsAt fp z7.heap) H' b := fun hn b hb => ⟨hn b hb, (fI b hb).2⟩
        let Ji : Nat → Shared → Prop := fun k z => ∃ j H', L2.Inv (X.blk sB HB sc ce fp) ([] ++ pinsAt fp z7.heap) (wipe σ8 vs1) H' z ∧ tn1 j z.heap ∧ (∀ b ∈ fp1, H' b = none) ∧ W1 j k H'
        have inner : codeAny (model X.prog X.w) X.A (.compLoop (dcX kx vx t0 i0 f0 t1 i1 f1 sc p) 1 (.ref it1) (.ref D) ce) (fun r z => match r with
            | .ok _ => ∃ l, l < m ∧ Jo l z
            | .error _ => False) zB := by
          refine dcLoop1 Ji ?_ mi ⟨0, HI, II.weak (wipe_length _ _) (fun j v e => (wipe_some e).1), stI, fun b hb => (fI b hb).1, wi0⟩
          rintro k zC ⟨j, HC, IC', stC', nC', wC'⟩
          rcases turn1 j k HC wC' with ⟨stop1, yh⟩ | ⟨go1, Y1, hY1, step1⟩
          · refine thnF (T1.done (X.blk sB HB sc ce fp) rfl rfl rfl hc j _ zC (wipe σ8 vs1) HC (fun _ _ => False) IC' (own1 nC') stC' stop1) fun r zD ⟨hr, ID⟩ => ?_
            subst hr
            exact done ID (l8.trans (wipe_length σ8 vs1).symm) k9 yh
          · refine thnF (T1.item (X.blk sB HB sc ce fp) rfl rfl rfl hc j _ zC (wipe σ8 vs1) HC (fun _ _ => False) IC' (own1 nC') stC' go1) fun r zD ⟨u1, hr, gD⟩ => ?_
            subst hr
            refine thnF gD fun _ zE ⟨x1, HE, IE, rE, yE, stE, nE⟩ => ?_
            refine thnF (rg1.run _ zE (wipe σ8 vs1) HE x1 u1 _ (IE.pinned (own1 nE) (T1.obj _ _ stE)) rE (step1 x1 HE yE)) fun _ zF ⟨σF, HF, IF', wF, qF⟩ => ?_
            refine thnF (rt1.run _ zF σF HF _ IF' qF) fun b1 zG ⟨HG, IG, qG⟩ => ?_
            have next : ∀ {z' : Shared} {H' : Hp}, L2.Inv (X.blk sB HB sc ce fp) (([] ++ pinsAt fp z7.heap) ++ pinsAt fp1 zE.heap) σF H' z' → Y1 H' → ∃ l, l < k ∧ Ji l z' := by
              intro z' H' I' yh
              obtain ⟨l, hlk, w'⟩ := hY1 H' yh
              have pn : ∀ b ∈ fp1, ∀ o, zE.heap.get? b = some o → z'.heap.get? b = some o ∧ H' b = none := fun b hb o e =>
                ⟨(I'.pin (b, o) (List.mem_append_right _ (List.mem_append_right _ (mem_pinsAt hb e)))).1, (I'.pin (b, o) (List.mem_append_right _ (List.mem_append_right _ (mem_pinsAt hb e)))).2.1⟩
              refine ⟨l, hlk, j + 1, H', I'.unpinned.weak (by rw [← wF, wipe_length]) (fun j v e => by rw [← wF] at e; exact (wipe_some e).1), T1.keep _ _ _ stE fun b hb o e => (pn b hb o e).1, fun b hb => ?_, w'⟩
              obtain ⟨o, e, _⟩ := T1.obj _ _ stE b hb
              exact (pn b hb o e).2
            by_cases hb1 : b1 = true
            · subst hb1
              rw [if_pos rfl] at qG ⊢
              refine thnF (rk.run _ zG σF HG _ IG qG) fun a zH ⟨yk, HH, IH, rH, qH⟩ => ?_
              refine thnF (re.run _ zH σF HH _ IH qH) fun c zI ⟨yv, HJ, IJ, rJ, kvs, key, ek, eD, hz, yh⟩ => ?_
              subst ek
              exact d_dictSet (X := X.blk sB HB sc ce fp) IJ eD hz rH rJ fun zK IK => next IK yh
            · simp only [if_neg hb1] at qG ⊢
              exact next IG qG
        exact dcStart1 inner (T1.self X.A 0 _ _ _ stI inner)
      · simp only [if_neg hb] at q9 ⊢
        exact done I9 l8 k8 q9
  exact codeAny_compStart_dict loop (T.self X.A 0 _ _ _ stC loop)
end
/-! ### over data -/
def dDComp (g : GD) (tt : TD) (tk tv : ED) (chk : Hd → Prop) : List D → List (Key × D) → Sd → Hd → (List (Key × D) → Hd → Prop) → Prop
  | [], acc, _, h, Q => chk h ∧ Q acc h
  | x :: xs, acc, σ, h, Q => chk h ∧ g x σ h fun σ2 h2 => tt σ2 h2 fun b h3 => dIte (b = true) (tk σ2 h3 fun y h4 => tv σ2 h4 fun z h5 => mO (keyD y) fun key => acc.length < sizeLine ∧ dDComp g tt tk tv chk xs (putD acc key z) σ h5 Q) (dDComp g tt tk tv chk xs acc σ h3 Q) .mk
def dDComp2 (g : GD) (tt : TD) (wi1 : ID) (g1 : GD) (tt1 : TD) (tk tv : ED) (vs1 : List Nat) (chk : Hd → Prop) : List D → List (Key × D) → Sd → Hd → (List (Key × D) → Hd → Prop) → Prop
  | [], acc, _, h, Q => chk h ∧ Q acc h
  | x :: xs, acc, σ, h, Q => chk h ∧ g x σ h fun σ2 h2 => tt σ2 h2 fun b h3 => dIte (b = true) (wi1 σ2 h3 fun items1 chk1 h4 => dDComp g1 tt1 tk tv chk1 items1 acc (wD σ2 vs1) h4 fun acc' h5 => dDComp2 g tt wi1 g1 tt1 tk tv vs1 chk xs acc' σ h5 Q) (dDComp2 g tt wi1 g1 tt1 tk tv vs1 chk xs acc σ h3 Q) .mk
inductive BxD (Q : List (Key × D) → Hd → Prop) : Type
  | mk
def dcm (g : GD) (tt : TD) (tk tv : ED) (chk : Hd → Prop) (items : List D) (σ : Sd) (h : Hd) (Q : List (Key × D) → Hd → Prop) (_ : BxD Q) : Prop := dDComp g tt tk tv chk items [] σ h Q
def dcm2 (g : GD) (tt : TD) (wi1 : ID) (g1 : GD) (tt1 : TD) (tk tv : ED) (vs1 : List Nat) (chk : Hd → Prop) (items : List D) (σ : Sd) (h : Hd) (Q : List (Key × D) → Hd → Prop) (_ : BxD Q) : Prop := dDComp2 g tt wi1 g1 tt1 tk tv vs1 chk items [] σ h Q
def dDc (wi : ID) (g : GD) (tt : TD) (tk tv : ED) (vs : List Nat) : ED := fun σ h Q => wi σ h fun items chk h1 => dcm g tt tk tv chk items (wD σ vs) h1 (fun ys h2 => ∀ p, h2 p = none → Q (.v (.ref p)) (put h2 p (.dk ys))) .mk
def dDc2 (wi : ID) (g : GD) (tt : TD) (wi1 : ID) (g1 : GD) (tt1 : TD) (tk tv : ED) (vs vs1 : List Nat) : ED := fun σ h Q => wi σ h fun items chk h1 => dcm2 g tt wi1 g1 tt1 tk tv vs1 chk items (wD σ vs) h1 (fun ys h2 => ∀ p, h2 p = none → Q (.v (.ref p)) (put h2 p (.dk ys))) .mk
section
variable {X : Cx} {B : Bs} {E : ER}
theorem dc_of {wi : ID} {gV : TG} {g : GD} {tt : TD} {tk tv : ED} {vs : List Nat} {G : Gv} {σV : L2.St} {H : Hp} {QV : VK} (gw : GW G gV g vs) (q : lE G B (dDc wi g tt tk tv vs) σV H QV) : tDc (lI G B wi) gV (lT G B tt) (lE G B tk) (lE G B tv) vs σV H QV := by
  obtain ⟨σ, h, Q, r0, q, o⟩ := q
  refine ⟨σ, h, _, r0, q, fun items chk h1 H1 J q1 g1 jo D hD => ?_⟩
  have hD1 : h1 D = none := g1.rh.free hD
  refine ⟨fun i m H' => ∃ h' acc accV, Go G H1 h1 H' h' ∧ h' D = none ∧ H' D = some (.dK accV) ∧ RpK G H' acc accV ∧ m = items.length - i ∧ i ≤ items.length ∧ dDComp g tt tk tv chk (items.drop i) acc (wD σ vs) h' (fun ys h2 => ∀ p, h2 p = none → Q (.v (.ref p)) (put h2 p (.dk ys))),
    ⟨items.length, h1, [], [], Go.hid g1.rh hD, hD1, upd_same, .nil, by simp, Nat.zero_le _, by simpa [dcm] using q1⟩, ?_⟩
  rintro i m H' ⟨h', acc, accV, g12, nD, eD, ra, rfl, hi, ql⟩
  by_cases hlt : i < items.length
  · rw [List.drop_eq_getElem_cons hlt] at ql
    obtain ⟨hc, ql⟩ := ql
    refine .inr ⟨jo.go i H' h' g12.st g12.rh hc hlt, fun H2 => ∃ h2 acc2 accV2, Go G H1 h1 H2 h2 ∧ h2 D = none ∧ H2 D = some (.dK accV2) ∧ RpK G H2 acc2 accV2 ∧ dDComp g tt tk tv chk (items.drop (i + 1)) acc2 (wD σ vs) h2 (fun ys h2 => ∀ p, h2 p = none → Q (.v (.ref p)) (put h2 p (.dk ys))),
      fun H2 ⟨h2, acc2, accV2, a1, a2, a3, a4, a5⟩ => ⟨items.length - (i + 1), by omega, h2, acc2, accV2, a1, a2, a3, a4, rfl, hlt, a5⟩, fun x H3 y => ?_⟩
    obtain ⟨d, ed, rd, g3⟩ := jo.yld i H' h' x H3 g12.st g12.rh hc hlt y
    rw [List.getElem?_eq_getElem hlt] at ed
    cases ed
    have g03 : Go G H h H3 h' := g1.trans (g12.trans g3)
    have rw3 : RelS G H3 (wD σ vs) (wipe σV vs) := relS_wipe (r0.s.stb g03.st) vs
    refine gw.run _ x (wD σ vs) h' _ H3 _ _ rd rw3 ql fun σ4 σV4 q4 r4 w4 => ⟨w4.trans (wipe_wipe σV vs), ?_⟩
    refine ⟨σ4, h', _, ⟨r0.go.trans g03, r4⟩, q4, fun b h5 H5 q5 g5 => ?_⟩
    have g25 : Go G H' h' H5 h5 := g3.trans g5
    have fD5 := g25.fr D _ eD nD
    cases b with
    | false =>
      refine iteF ⟨h5, acc, accV, g12.trans g25, fD5.2, fD5.1, ra.stb g25.st, (by simpa [dIte] using q5)⟩
    | true =>
      refine iteT ⟨σ4, h5, _, ⟨r0.go.trans (g03.trans g5), r4.stb g5.st⟩, (by simpa [dIte] using q5), fun yd h6 yv H6 q6 g6 r6 => ?_⟩
      have g26 := g25.trans g6
      refine ⟨σ4, h6, _, ⟨r0.go.trans (g1.trans (g12.trans g26)), (r4.stb g5.st).stb g6.st⟩, q6, fun zd h7 zv H7 q7 g7 r7 => ?_⟩
      obtain ⟨key, ek, hz, q77⟩ := mO_ex q7
      have ey := keyD_ok ek
      subst ey
      cases r6
      have g27 := g26.trans g7
      have fD7 := g27.fr D _ eD nD
      refine ⟨accV, key, rfl, fD7.1, by rw [← ra.len]; exact hz, h7, putD acc key zd, putK accV key zv, go_hs (g12.trans g27) hD fD7.2 fD7.1 trivial, fD7.2, upd_same, ?_, q77⟩
      exact (putD_rel (ra.stb g27.st) r7).stb (Stb.set fD7.1 trivial)
  · rw [List.drop_eq_nil_of_le (by omega)] at ql
    obtain ⟨hc, ql⟩ := ql
    have g02 := g1.trans g12
    refine .inl ⟨jo.stop i H' h' g12.st g12.rh hc (by omega), o _ _ _ H' (ql D nD) ⟨g02.st, fun a o' e' n => ?_, fun b o' e' => ?_⟩ (.v _)⟩
    · have z : a ≠ D := ne_of_none (g1.fr a o' e' n).1 hD
      exact ⟨(g02.fr a o' e' n).1, by rw [put_ne z]; exact (g02.fr a o' e' n).2⟩
    · by_cases z : b = D
      · subst z
        rw [put_same] at e'; cases e'
        exact ⟨_, eD, accV, rfl, ra⟩
      · rw [put_ne z] at e'
        exact g02.rh b o' e'
theorem dc2_of {wi wi1 : ID} {gV gV1 : TG} {g g1 : GD} {tt tt1 : TD} {tk tv : ED} {vs vs1 : List Nat} {G : Gv} {σV : L2.St} {H : Hp} {QV : VK} (gw : GW G gV g vs) (gw1 : GW G gV1 g1 vs1) (q : lE G B (dDc2 wi g tt wi1 g1 tt1 tk tv vs vs1) σV H QV) :
    tDc2 (lI G B wi) gV (lT G B tt) (lI G B wi1) gV1 (lT G B tt1) (lE G B tk) (lE G B tv) vs vs1 σV H QV := by
  obtain ⟨σ, h, Q, r0, q, o⟩ := q
  refine ⟨σ, h, _, r0, q, fun items chk h1 H1 J q1 g1' jo D hD => ?_⟩
  have hD1 : h1 D = none := g1'.rh.free hD
  refine ⟨fun i m H' => ∃ h' acc accV, Go G H1 h1 H' h' ∧ h' D = none ∧ H' D = some (.dK accV) ∧ RpK G H' acc accV ∧ m = items.length - i ∧ i ≤ items.length ∧ dDComp2 g tt wi1 g1 tt1 tk tv vs1 chk (items.drop i) acc (wD σ vs) h' (fun ys h2 => ∀ p, h2 p = none → Q (.v (.ref p)) (put h2 p (.dk ys))),
    ⟨items.length, h1, [], [], Go.hid g1'.rh hD, hD1, upd_same, .nil, by simp, Nat.zero_le _, by simpa [dcm2] using q1⟩, ?_⟩
  rintro i m H' ⟨h', acc, accV, g12, nD, eD, ra, rfl, hi, ql⟩
  by_cases hlt : i < items.length
  · rw [List.drop_eq_getElem_cons hlt] at ql
    obtain ⟨hc, ql⟩ := ql
    refine .inr ⟨jo.go i H' h' g12.st g12.rh hc hlt, fun H2 => ∃ h2 acc2 accV2, Go G H1 h1 H2 h2 ∧ h2 D = none ∧ H2 D = some (.dK accV2) ∧ RpK G H2 acc2 accV2 ∧ dDComp2 g tt wi1 g1 tt1 tk tv vs1 chk (items.drop (i + 1)) acc2 (wD σ vs) h2 (fun ys h2 => ∀ p, h2 p = none → Q (.v (.ref p)) (put h2 p (.dk ys))),
      fun H2 ⟨h2, acc2, accV2, a1, a2, a3, a4, a5⟩ => ⟨items.length - (i + 1), by omega, h2, acc2, accV2, a1, a2, a3, a4, rfl, hlt, a5⟩, fun x H3 y => ?_⟩
    obtain ⟨d, ed, rd, g3⟩ := jo.yld i H' h' x H3 g12.st g12.rh hc hlt y
    rw [List.getElem?_eq_getElem hlt] at ed
    cases ed
    have g03 : Go G H h H3 h' := g1'.trans (g12.trans g3)
    have rw3 : RelS G H3 (wD σ vs) (wipe σV vs) := relS_wipe (r0.s.stb g03.st) vs
    refine gw.run _ x (wD σ vs) h' _ H3 _ _ rd rw3 ql fun σ4 σV4 q4 r4 w4 => ⟨w4.trans (wipe_wipe σV vs), ?_⟩
    refine ⟨σ4, h', _, ⟨r0.go.trans g03, r4⟩, q4, fun b h5 H5 q5 g5 => ?_⟩
    have g25 : Go G H' h' H5 h5 := g3.trans g5
    have fD5 := g25.fr D _ eD nD
    cases b with
    | false =>
      refine iteF ⟨h5, acc, accV, g12.trans g25, fD5.2, fD5.1, ra.stb g25.st, (by simpa [dIte] using q5)⟩
    | true =>
      refine iteT ⟨σ4, h5, _, ⟨r0.go.trans (g03.trans g5), r4.stb g5.st⟩, (by simpa [dIte] using q5), fun items1 chk1 h6 H6 J1 q6 g6 jo1 => ?_⟩
      have g26 := g25.trans g6
      have fD6 := g26.fr D _ eD nD
      have g16 := g12.trans g26
      refine ⟨fun j k Hc => ∃ hc acc accV, Go G H1 h1 Hc hc ∧ Stb H6 Hc ∧ hc D = none ∧ Hc D = some (.dK accV) ∧ RpK G Hc acc accV ∧ k = items1.length - j ∧ j ≤ items1.length ∧ dDComp g1 tt1 tk tv chk1 (items1.drop j) acc (wD σ4 vs1) hc (fun acc' h5 => dDComp2 g tt wi1 g1 tt1 tk tv vs1 chk (items.drop (i + 1)) acc' (wD σ vs) h5 (fun ys h2 => ∀ p, h2 p = none → Q (.v (.ref p)) (put h2 p (.dk ys)))),
        ⟨items1.length, h6, acc, accV, g16, Stb.refl _, fD6.2, fD6.1, ra.stb g26.st, by simp, Nat.zero_le _, by simpa using q6⟩, ?_⟩
      rintro j k Hc ⟨hc1, acc, accV, gc, sc, nD, eD, ra, rfl, hj, qj⟩
      by_cases hlj : j < items1.length
      · rw [List.drop_eq_getElem_cons hlj] at qj
        obtain ⟨hcj, qj⟩ := qj
        refine .inr ⟨jo1.go j Hc hc1 sc gc.rh hcj hlj, fun H2 => ∃ h2 acc2 accV2, Go G H1 h1 H2 h2 ∧ Stb H6 H2 ∧ h2 D = none ∧ H2 D = some (.dK accV2) ∧ RpK G H2 acc2 accV2 ∧ dDComp g1 tt1 tk tv chk1 (items1.drop (j + 1)) acc2 (wD σ4 vs1) h2 (fun acc' h5 => dDComp2 g tt wi1 g1 tt1 tk tv vs1 chk (items.drop (i + 1)) acc' (wD σ vs) h5 (fun ys h2 => ∀ p, h2 p = none → Q (.v (.ref p)) (put h2 p (.dk ys)))),
          fun H2 ⟨h2, acc2, accV2, a1, a0, a2, a3, a4, a5⟩ => ⟨items1.length - (j + 1), by omega, h2, acc2, accV2, a1, a0, a2, a3, a4, rfl, hlj, a5⟩, fun x1 H7 y1 => ?_⟩
        obtain ⟨d1, ed1, rd1, g7⟩ := jo1.yld j Hc hc1 x1 H7 sc gc.rh hcj hlj y1
        rw [List.getElem?_eq_getElem hlj] at ed1
        cases ed1
        have gB : Go G H h Hc hc1 := g1'.trans gc
        have s47 : Stb H3 H7 := (g5.st.trans g6.st).trans (sc.trans g7.st)
        have rw7 : RelS G H7 (wD σ4 vs1) (wipe σV4 vs1) := relS_wipe (r4.stb s47) vs1
        refine gw1.run _ x1 (wD σ4 vs1) hc1 _ H7 _ _ rd1 rw7 qj fun σ8 σV8 q8 r8 w8 => ⟨w8.trans (wipe_wipe σV4 vs1), ?_⟩
        refine ⟨σ8, hc1, _, ⟨r0.go.trans (gB.trans g7), r8⟩, q8, fun b9 h9 H9 q9 g9 => ?_⟩
        have g79 := g7.trans g9
        have fD9 := g79.fr D _ eD nD
        cases b9 with
        | false => exact iteF ⟨h9, acc, accV, gc.trans g79, sc.trans g79.st, fD9.2, fD9.1, ra.stb g79.st, (by simpa [dIte] using q9)⟩
        | true =>
          refine iteT ⟨σ8, h9, _, ⟨r0.go.trans (gB.trans g79), r8.stb g9.st⟩, (by simpa [dIte] using q9), fun yd hA yv HA qA gA rA => ?_⟩
          have g7A := g79.trans gA
          refine ⟨σ8, hA, _, ⟨r0.go.trans (gB.trans g7A), (r8.stb g9.st).stb gA.st⟩, qA, fun zd hZ zv HZ qZ gZ rZ => ?_⟩
          obtain ⟨key, ek, hz, qZZ⟩ := mO_ex qZ
          have ey := keyD_ok ek
          subst ey
          cases rA
          have g7Z := g7A.trans gZ
          have fDZ := g7Z.fr D _ eD nD
          refine ⟨accV, key, rfl, fDZ.1, by rw [← ra.len]; exact hz, hZ, putD acc key zd, putK accV key zv, go_hs (gc.trans g7Z) hD fDZ.2 fDZ.1 trivial, (sc.trans g7Z.st).trans (Stb.set fDZ.1 trivial), fDZ.2, upd_same, ?_, qZZ⟩
          exact (putD_rel (ra.stb g7Z.st) rZ).stb (Stb.set fDZ.1 trivial)
      · rw [List.drop_eq_nil_of_le (by omega)] at qj
        obtain ⟨hcj, qj⟩ := qj
        exact .inl ⟨jo1.stop j Hc hc1 sc gc.rh hcj (by omega), hc1, acc, accV, gc, nD, eD, ra, qj⟩
  · rw [List.drop_eq_nil_of_le (by omega)] at ql
    obtain ⟨hc, ql⟩ := ql
    have g02 := g1'.trans g12
    refine .inl ⟨jo.stop i H' h' g12.st g12.rh hc (by omega), o _ _ _ H' (ql D nD) ⟨g02.st, fun a o' e' n => ?_, fun b o' e' => ?_⟩ (.v _)⟩
    · have z : a ≠ D := ne_of_none (g1'.fr a o' e' n).1 hD
      exact ⟨(g02.fr a o' e' n).1, by rw [put_ne z]; exact (g02.fr a o' e' n).2⟩
    · by_cases z : b = D
      · subst z
        rw [put_same] at e'; cases e'
        exact ⟨_, eD, accV, rfl, ra⟩
      · rw [put_ne z] at e'
        exact g02.rh b o' e'
theorem de_dc {kx vx tg iter : Expr} {ifs : List Expr} {scope : Scope} {own : List (Str × Nat)} {pos : Pos} {wi : ID} {gV : TG} {g : GD} {tt : TD} {tk tv : ED} (rg : Rg X B E) (hN : X.N.Nodup) (hi : DI X B tg iter wi) (ok : BlkOk X.N X.env.scope scope own)
    (hg : ∀ (s : Shared) (H : Hp) (C : Addr) (cl : List (Str × Addr)) (fp : List Addr), PG (X.blk s H scope (compEnvC scope cl C X.env) fp) tg gV) (gw : GW X.gv gV g (own.map (·.2)))
    (ht : ∀ (s : Shared) (H : Hp) (C : Addr) (cl : List (Str × Addr)) (fp : List Addr), DTs (X.blk s H scope (compEnvC scope cl C X.env) fp) B ifs tt)
    (hk : ∀ (s : Shared) (H : Hp) (C : Addr) (cl : List (Str × Addr)) (fp : List Addr), DE (X.blk s H scope (compEnvC scope cl C X.env) fp) B kx tk)
    (he : ∀ (s : Shared) (H : Hp) (C : Addr) (cl : List (Str × Addr)) (fp : List Addr), DE (X.blk s H scope (compEnvC scope cl C X.env) fp) B vx tv) (hs : ∀ x, foldedSetIterable iter X.env x = pure x := by intro _; rfl) :
    DE X B (.DictComp kx vx [⟨tg, iter, ifs, 0⟩] scope pos) (dDc wi g tt tk tv (own.map (·.2))) :=
  PE.imp (pe_dc (tt := lT X.gv B tt) (tk := lE X.gv B tk) (tv := lE X.gv B tv) rg.calm hN hi ok hg ht hk he hs) fun σV H QV q => dc_of gw q
theorem de_dc2 {kx vx tg iter tg1 iter1 : Expr} {ifs ifs1 : List Expr} {scope : Scope} {own : List (Str × Nat)} {vs1 : List Nat} {pos : Pos} {wi wi1 : ID} {gV gV1 : TG} {g g1 : GD} {tt tt1 : TD} {tk tv : ED} (rg : Rg X B E) (hN : X.N.Nodup) (hi : DI X B tg iter wi) (ok : BlkOk X.N X.env.scope scope own)
    (hg : ∀ (s : Shared) (H : Hp) (C : Addr) (cl : List (Str × Addr)) (fp : List Addr), PG (X.blk s H scope (compEnvC scope cl C X.env) fp) tg gV) (gw : GW X.gv gV g (own.map (·.2)))
    (ht : ∀ (s : Shared) (H : Hp) (C : Addr) (cl : List (Str × Addr)) (fp : List Addr), DTs (X.blk s H scope (compEnvC scope cl C X.env) fp) B ifs tt)
    (hi1 : ∀ (s : Shared) (H : Hp) (C : Addr) (cl : List (Str × Addr)) (fp : List Addr), DI (X.blk s H scope (compEnvC scope cl C X.env) fp) B tg1 iter1 wi1)
    (hg1 : ∀ (s : Shared) (H : Hp) (C : Addr) (cl : List (Str × Addr)) (fp : List Addr), PG (X.blk s H scope (compEnvC scope cl C X.env) fp) tg1 gV1) (gw1 : GW X.gv gV1 g1 vs1)
    (ht1 : ∀ (s : Shared) (H : Hp) (C : Addr) (cl : List (Str × Addr)) (fp : List Addr), DTs (X.blk s H scope (compEnvC scope cl C X.env) fp) B ifs1 tt1)
    (hk : ∀ (s : Shared) (H : Hp) (C : Addr) (cl : List (Str × Addr)) (fp : List Addr), DE (X.blk s H scope (compEnvC scope cl C X.env) fp) B kx tk)
    (he : ∀ (s : Shared) (H : Hp) (C : Addr) (cl : List (Str × Addr)) (fp : List Addr), DE (X.blk s H scope (compEnvC scope cl C X.env) fp) B vx tv) (hv : ∀ i ∈ vs1, i ∈ own.map (·.2) := by decide) (hs : ∀ x, foldedSetIterable iter X.env x = pure x := by intro _; rfl) (hs1 : ∀ env x, foldedSetIterable iter1 env x = pure x := by intro _ _; rfl) :
    DE X B (.DictComp kx vx [⟨tg, iter, ifs, 0⟩, ⟨tg1, iter1, ifs1, 0⟩] scope pos) (dDc2 wi g tt wi1 g1 tt1 tk tv (own.map (·.2)) vs1) :=
  PE.imp (pe_dc2 (tt := lT X.gv B tt) (tt1 := lT X.gv B tt1) (tk := lE X.gv B tk) (tv := lE X.gv B tv) (wi1 := lI X.gv B wi1) rg.calm hN hi ok hv hg ht hi1 hg1 ht1 hk he hs hs1) fun σV H QV q => dc2_of gw gw1 q
end
def rds10 := And.intro @dDc.eq_1 (And.intro @dDc2.eq_1 trivial)
end DL
/-! DLn: lists of numbers compared, list(range(..)), sorted(a dict), is True -/
namespace DL
open PySem L2
theorem canLay_ints : ∀ ns : List Int, PyData.canLayAll0 (ns.map .int) = true
  | [] => by simp [PyData.canLayAll0]
  | n :: r => by simp [PyData.canLayAll0, PyData.canLay0, canLay_ints r]
theorem depth_ints : ∀ ns : List Int, PyData.depthAll (ns.map .int) = 0
  | [] => by simp [PyData.depthAll]
  | n :: r => by simp [PyData.depthAll, PyData.depth, depth_ints r]
theorem shaped_ints (ns : List Int) : SeqAt.shaped (.list (ns.map .int)) = true := by
  unfold SeqAt.shaped
  rw [Bool.and_eq_true, decide_eq_true_eq]
  refine ⟨?_, ?_⟩
  · simp only [PyData.canLay0]
    exact canLay_ints ns
  · simp only [PyData.depth]
    rw [depth_ints]
    decide
theorem dpAll_ints {K : PySem.W.Frag} {H : Hp} : ∀ ns : List Int, DpAll K H (ns.map V.int) (ns.map .int)
  | [] => .nil
  | n :: r => .cons (.int n) (dpAll_ints r)
section
variable {X : Cx} {B : Bs}
/-- ==, lists of numbers too -/
def pEqA : R2d := fun x y h Q => match x, y with
  | .v (.ref a), .v (.ref b) => mO (rdL h a) fun xs => mO (intsOf xs) fun ns => mO (rdL h b) fun ys => mO (intsOf ys) fun ms => Q (.v (.bl (decide (ns = ms)))) h
  | x, y => pEq x y h Q
theorem do_eqA {k : Nat} (hr : Room k X.A) : DOp X (compareOp .Eq) pEqA := fun pins s σ H x y v u Q I rx ry hh => by
  obtain ⟨dx, dy, h, Qd, px, py, rh, q, o⟩ := hh
  unfold pEqA at q
  split at q
  · obtain ⟨xs, e1, q⟩ := mO_ex q
    obtain ⟨ns, e2, q⟩ := mO_ex q
    obtain ⟨ys, e3, q⟩ := mO_ex q
    obtain ⟨ms, e4, q⟩ := mO_ex q
    cases px; cases py
    obtain ⟨vs, sv, rv⟩ := rdL_ok rh e1
    obtain ⟨ws, sw, rw'⟩ := rdL_ok rh e3
    rw [intsOf_ok e2] at rv
    rw [intsOf_ok e4] at rw'
    have ev := rps_ints rv
    have ew := rps_ints rw'
    subst ev ew
    have eq : PyData.eqv (.list (ns.map .int)) (.list (ms.map .int)) = decide (ns = ms) := PySem.W.Datum.eqv (α := List Int) ns ms
    refine op_eqD (by have := hr.units; omega) pins s σ H _ _ v u Q I rx ry ⟨_, _, .lst sv (dpAll_ints ns), .lst sw (dpAll_ints ms), shaped_ints ns, shaped_ints ms, ?_⟩
    rw [eq]
    exact o _ h _ H q (Go.refl rh) (.v _)
  · exact do_eq (u50 hr) pins s σ H x y v u Q I rx ry ⟨_, _, h, Qd, px, py, rh, q, o⟩
variable {i j : Int} {a b : Str} {xs : List D} {y : D} {h : Hd} {Q : KD} {p q : Addr}
theorem pEqA_i : pEqA (.v (.int i)) (.v (.int j)) h Q = Q (.v (.bl (decide (i = j)))) h := rfl
theorem pEqA_s : pEqA (.v (.str a)) (.v (.str b)) h Q = Q (.v (.bl (decide (a = b)))) h := rfl
theorem pEqA_t : pEqA (.t xs) y h Q = ((plD 50 (.t xs) && plD 50 y) = true ∧ Q (.v (.bl (eqD (.t xs) y))) h) := pEq_t
theorem pEqA_non : pEqA (.v .non) y h Q = ((plD 50 (.v .non) && plD 50 y) = true ∧ Q (.v (.bl (eqD (.v .non) y))) h) := pEq_non
theorem pEqA_bl {k : Bool} : pEqA (.v (.bl k)) y h Q = ((plD 50 (.v (.bl k)) && plD 50 y) = true ∧ Q (.v (.bl (eqD (.v (.bl k)) y))) h) := pEq_bl
def eqO (o u : Option O) (h : Hd) (Q : KD) : Prop := match o, u with
  | some (.lst xs), some (.lst ys) => mO (intsOf xs) fun ns => mO (intsOf ys) fun ms => Q (.v (.bl (decide (ns = ms)))) h
  | _, _ => False
theorem eqO_l {xs ys : List D} : eqO (some (.lst xs)) (some (.lst ys)) h Q = mO (intsOf xs) fun ns => mO (intsOf ys) fun ms => Q (.v (.bl (decide (ns = ms)))) h := rfl
theorem rdL_some {h : Hd} {a : Addr} {xs : List D} (e : rdL h a = some xs) : h a = some (.lst xs) := by
  unfold rdL at e
  split at e
  · rename_i q; cases e; exact q
  · cases e
theorem pEqA_r : pEqA (.v (.ref p)) (.v (.ref q)) h Q = eqO (h p) (h q) h Q := by
  show (mO (rdL h p) fun xs => mO (intsOf xs) fun ns => mO (rdL h q) fun ys => mO (intsOf ys) fun ms => Q (.v (.bl (decide (ns = ms)))) h) = _
  refine propext ⟨fun z => ?_, fun z => ?_⟩
  · obtain ⟨xs, e1, z⟩ := mO_ex z
    obtain ⟨ns, e2, z⟩ := mO_ex z
    obtain ⟨ys, e3, z⟩ := mO_ex z
    obtain ⟨ms, e4, z⟩ := mO_ex z
    rw [rdL_some e1, rdL_some e3, eqO_l, e2, e4]
    exact z
  · unfold eqO at z
    split at z
    · rename_i xs ys e1 e2
      obtain ⟨ns, e3, z⟩ := mO_ex z
      obtain ⟨ms, e4, z⟩ := mO_ex z
      rw [rdL_l e1]
      show mO (intsOf xs) fun ns => mO (rdL h q) fun ys => mO (intsOf ys) fun ms => Q (.v (.bl (decide (ns = ms)))) h
      rw [e3]
      show mO (rdL h q) fun ys => mO (intsOf ys) fun ms => Q (.v (.bl (decide (ns = ms)))) h
      rw [rdL_l e2]
      show mO (intsOf ys) fun ms => Q (.v (.bl (decide (ns = ms)))) h
      rw [e4]
      exact z
    · exact z.elim
/-- is, of None and of bools -/
def pIsA : R2d := fun x y h Q => match y with
  | .v (.bl k) => mBl x fun j => Q (.v (.bl (decide (j = k)))) h
  | _ => pIs x y h Q
def pIsNotA : R2d := fun x y h Q => match y with
  | .v (.bl k) => mBl x fun j => Q (.v (.bl (!decide (j = k)))) h
  | _ => pIsNot x y h Q
theorem mBl_ex {d : D} {k : Bool → Prop} (q : mBl d k) : ∃ b, d = .v (.bl b) ∧ k b := by
  unfold mBl at q
  split at q
  · exact ⟨_, rfl, q⟩
  · exact q.elim
theorem do_isA : DOp X (compareOp .Is) pIsA := fun pins s σ H x y v u Q I rx ry hh => by
  obtain ⟨dx, dy, h, Qd, px, py, rh, q, o⟩ := hh
  unfold pIsA at q
  split at q
  · obtain ⟨j, rfl, q⟩ := mBl_ex q
    cases px; cases py
    exact op_is_bl pins s σ H _ _ v u Q I rx ry ⟨j, _, rfl, rfl, o _ h _ H q (Go.refl rh) (.v _)⟩
  · exact do_is pins s σ H x y v u Q I rx ry ⟨_, _, h, Qd, px, py, rh, q, o⟩
theorem do_isnotA : DOp X (compareOp .IsNot) pIsNotA := fun pins s σ H x y v u Q I rx ry hh => by
  obtain ⟨dx, dy, h, Qd, px, py, rh, q, o⟩ := hh
  unfold pIsNotA at q
  split at q
  · obtain ⟨j, rfl, q⟩ := mBl_ex q
    cases px; cases py
    exact op_isnot_bl pins s σ H _ _ v u Q I rx ry ⟨j, _, rfl, rfl, o _ h _ H q (Go.refl rh) (.v _)⟩
  · exact do_isnot pins s σ H x y v u Q I rx ry ⟨_, _, h, Qd, px, py, rh, q, o⟩
theorem pIsA_n {x : D} : pIsA x (.v .non) h Q = Q (.v (.bl (isN x))) h := rfl
theorem pIsNotA_n {x : D} : pIsNotA x (.v .non) h Q = Q (.v (.bl (!isN x))) h := rfl
theorem pIsA_b {j k : Bool} : pIsA (.v (.bl j)) (.v (.bl k)) h Q = Q (.v (.bl (decide (j = k)))) h := rfl
theorem pIsNotA_b {j k : Bool} : pIsNotA (.v (.bl j)) (.v (.bl k)) h Q = Q (.v (.bl (!decide (j = k)))) h := rfl
/-! ### list(range(..)) -/
def dLRg1 (ta : ED) : ED := fun σ h Q => ta σ h fun d h1 => mInt d fun n => (0 ≤ n ∧ n ≤ 16777216) ∧ al h1 (fun p => Q (.v (.ref p)) (put h1 p (.lst (rangeD 0 n.toNat)))) .mk
theorem mInt_ex {d : D} {k : Int → Prop} (q : mInt d k) : ∃ b, d = .v (.int b) ∧ k b := by
  unfold mInt at q
  split at q
  · exact ⟨_, rfl, q⟩
  · exact q.elim
theorem rps_range {K : PySem.W.Frag} {H : Hp} (a b : Int) : Rps K H (rangeD a (b - a).toNat) (rgV a b) := by
  have := Rps.mapV (K := K) (H := H) (xs := rgV a b)
  have e : (rgV a b).map D.v = rangeD a (b - a).toNat := by
    unfold rgV rangeD
    rw [List.map_map]
    rfl
  rw [e] at this
  exact this
theorem de_lrg1 {a : Expr} {ta : ED} {p1 p2 p3 pos : Pos} (hc : X.calm = true) (hm : X.mg "list" = none) (hm2 : X.mg "range" = none) (ha : DE X B a ta) (hg : Gl X "list" := by rfl) (hg2 : Gl X "range" := by rfl)
    (na : starEach [a] X.env = (false, eval a X.env) :: starEach [] X.env := by rfl) (nb : starEach [.Call (.Name "range" p1) [a] [] p2] X.env = (false, eval (.Call (.Name "range" p1) [a] [] p2) X.env) :: starEach [] X.env := by rfl) :
    DE X B (.Call (.Name "list" p3) [.Call (.Name "range" p1) [a] [] p2] [] pos) (dLRg1 ta) :=
  PE.imp (pe_listRg hc hg hm (prg_1 hg2 hm2 ha na) nb) fun σV H QV ⟨σ, h, Q, r0, q, o⟩ => ⟨σ, h, _, r0, q, fun d h1 v H1 q1 g1 rp => by
    obtain ⟨n, rfl, hn, q1⟩ := mInt_ex q1
    cases rp
    refine ⟨n, rfl, RgOk.of_le (by decide) hn.2 (by decide) hn.1, fun p hp => o _ _ _ _ (q1 p (g1.rh.free hp)) (g1.trans (Go.new g1.rh hp ⟨_, rfl, ?_⟩)) (.v _)⟩
    have := rps_range (K := X.gv.K) (H := upd H1 p (.lst (rgV 0 n))) 0 n
    rw [Int.sub_zero] at this
    exact this⟩
/-- sorted of a dict with up to 1000 keys, all numbers -/
def rSD : List V → Hp → L2.VK → Prop := fun xs H Q => ∃ (a : Addr) (kvs : List (Key × V)) (ks : List Int), xs = [.ref a] ∧ Rd H a (.dK kvs) ∧ kvs.map Prod.fst = ks.map (Sum.inl : Int → Key) ∧ ks.length ≤ 1000 ∧ ∀ (ys : List Int) (p : Addr), ys.Perm ks → ys.Pairwise (· ≤ ·) → H p = none → Q (.ref p) (upd H p (.lst (ys.map V.int)))
theorem cr_sortedD {X : Cx} (hc : X.calm = true) : CallR X (.builtin "sorted") rSD := by
  rintro pins s σ H xs us Q I r ⟨a, kvs, ks, rfl, hd, hks, hle, q⟩
  obtain ⟨u, rfl, rx⟩ := vals1 r
  cases rx
  obtain ⟨_, lo, vs, rel, dd⟩ := dk_rd I.hok hd
  obtain ⟨ep, hat⟩ := dd.dictAt
  have kv : vs.map Prod.fst = ks.map Sum.inl := by rw [← hks]; exact rel.keys.symm
  have len : vs.length = ks.length := by simpa using congrArg List.length kv
  have small : ∀ n, n ≤ 1000 → n ≤ sizeLine := fun n hn => Nat.le_trans hn (by decide)
  refine Calls.call_function_entry PyProof.Rows.kind_sorted PyProof.Rows.plain_sorted PyProof.Rows.entry_sorted (PyProof.Rows.args_sorted1 _) (wpAny_bind (m := checkCount "sorted" 1 1 _) (wpAny_pure (wpAny_bind (PySem.W.kdu_collect (A := X.A.in1) (PySem.W.kdl_dict (knd := mixKind X.prog X.w) (kvs := vs) (ep := ep) lo) (I.ok.hd hc) hat (small _ (by omega)) ?_))))
  intro h1 tk acc hk got
  have al : acc.toList.length = ks.length := by rw [← len, ← got.1, Array.length_toList]
  have each : PyProof.Rows.IntsAre acc.toList ks := by
    refine ints_each al fun j v e => ?_
    rw [Array.getElem?_toList] at e
    obtain ⟨k, x, e1, e2⟩ := got.2 j v e
    have e3 : (ks.map (Sum.inl : Int → Key))[j]? = some k := by rw [← kv, List.getElem?_map, e1]; rfl
    obtain ⟨y, ey, ek⟩ := Option.map_eq_some_iff.mp ((List.getElem?_map (f := (Sum.inl : Int → Key)) (l := ks) (i := j)).symm.trans e3)
    rcases keyIs_shape (k := k) (v := v) e2 with ⟨i, t, z, ev⟩ | ⟨_, _, z, _⟩
    · rw [z] at ek
      cases ek
      exact ⟨y, t, ey, ev⟩
    · rw [z] at ek
      cases ek
  have J : Inv X pins σ H { s with heap := h1, toks := tk } := I.kept hk
  have there : (h1.push (PyProof.Rows.seqObj "list" acc.toList.toArray 0)).get? h1.objs.size = some (PyProof.Rows.seqObj "list" acc.toList.toArray 0) := Heap.get?_push_size _ rfl
  refine wpAny_bind (wpAny_newList ?_ (small _ (by omega)))
  refine wpAny_bind (wpAny_holding (wpAny_call_entry (s := { s with heap := h1.push (PyProof.Rows.seqObj "list" acc.toList.toArray 0), toks := tk }) PyProof.Rows.slot_list_sort ⟨_, there, rfl⟩ PyProof.Rows.entry_list_sort ?_ (PyProof.Rows.args_list_sort _)))
  refine SrtO.list_sort_ord SrtO.swo_int there (small _ (by omega)) (fun h2 => SrtO.ints_sortable each h2) fun out o1 o2 => ⟨_, rfl, ?_⟩
  obtain ⟨k1, k2, k3⟩ := SrtO.ints_out each o1 o2
  obtain ⟨e', he'⟩ := PyProof.Rows.sortedHeap_at (vs := acc.toList) (out := out.toArray) there
  have hlen : ((out.map SrtO.iv).map V.int).length ≤ sizeLine := by
    have := k2.length_eq
    exact small _ (by rw [List.length_map]; omega)
  refine wpAny_pure ⟨_, rfl, .ref h1.objs.size, upd H h1.objs.size (.lst ((out.map SrtO.iv).map V.int)), J.laid (t' := tk) (fun b u e => ?_) (Nat.le_refl _) ⟨hlen, out, e', vals_of_ints k1, he'⟩, rfl, q _ _ k2 k3 (J.hok.fresh (Nat.le_refl _))⟩
  have hb := Heap.lt_size e
  rw [PyProof.Rows.sortedHeap_old (Nat.ne_of_lt hb) (Nat.lt_of_lt_of_le hb (by show _ ≤ (h1.objs.push _).size; rw [Array.size_push]; exact Nat.le_succ _))]
  exact Heap.get?_push_of_some _ e
/-! ### sorted of a dict whose keys are numbers -/
def keysI : List (Key × D) → Option (List Int)
  | [] => some []
  | (.inl i, _) :: r => match keysI r with
    | some ks => some (i :: ks)
    | none => none
  | (.inr _, _) :: _ => none
theorem keysI_ok : ∀ {kvs : List (Key × D)} {ks : List Int}, keysI kvs = some ks → kvs.map (·.1) = ks.map Sum.inl
  | [], ks, e => by cases e; rfl
  | (.inl i, d) :: r, ks, e => by
    unfold keysI at e
    split at e
    · rename_i q
      cases e
      rw [List.map_cons, List.map_cons, keysI_ok q]
    · cases e
  | (.inr _, _) :: _, _, e => by cases e
theorem rpk_keys {κ : Type} {G : Gv} {H : Hp} : ∀ {kvs : List (κ × D)} {vs : List (κ × V)}, RpK G H kvs vs → kvs.map (·.1) = vs.map (·.1)
  | _, _, .nil => rfl
  | _, _, .cons h t => by rw [List.map_cons, List.map_cons, h.1, rpk_keys t]
def sortOA (o : Option O) (h : Hd) (Q : KD) : Prop := match o with
  | some (.lst xs) => sortX xs h Q
  | some (.dk kvs) => mO (keysI kvs) fun ks => ks.length ≤ 1000 ∧ srt ks (fun ns' => al h (fun p => Q (.v (.ref p)) (put h p (.lst (intsD ns')))) .mk) .mk
  | _ => False
theorem sortOA_l {xs : List D} : sortOA (some (.lst xs)) h Q = sortX xs h Q := rfl
theorem sortOA_d {kvs : List (Key × D)} : sortOA (some (.dk kvs)) h Q = mO (keysI kvs) fun ks => ks.length ≤ 1000 ∧ srt ks (fun ns' => al h (fun p => Q (.v (.ref p)) (put h p (.lst (intsD ns')))) .mk) .mk := rfl
def cSortedA : CD := fun ds h Q => match ds with
  | [.v (.ref a)] => sortOA (h a) h Q
  | _ => False
theorem cSortedA_r {a : Addr} : cSortedA [.v (.ref a)] h Q = sortOA (h a) h Q := rfl
theorem ca_sortedA (hc : X.calm = true) : DCa X (.builtin "sorted") cSortedA := dca_of (cr_sortedI.or (cr_sortedD hc)) fun xs H Q ⟨ds, h, Qd, rp, rh, q, o⟩ => by
  unfold cSortedA at q
  split at q
  · rename_i a
    cases rp with
    | cons r1 r2 =>
      cases r2; cases r1
      unfold sortOA at q
      split at q
      · rename_i xs e
        obtain ⟨ns, e2, q⟩ := mO_ex q
        obtain ⟨vs, hv, r⟩ := lst_ok rh e
        rw [intsOf_ok e2] at r
        have := rps_ints r
        subst this
        exact .inl ⟨_, ns, rfl, SqL.of hv, fun ns' p h1 h2 hp => o _ _ _ _ (q ns' h1 h2 p (rh.free hp)) (Go.new rh hp ⟨_, rfl, rps_ints'⟩) (.v _)⟩
      · rename_i kvs e
        obtain ⟨ks, e2, hl, q⟩ := mO_ex q
        obtain ⟨vs, hv, r⟩ := dk_ok rh e
        exact .inr ⟨_, vs, ks, rfl, .inl hv, by rw [← rpk_keys r]; exact keysI_ok e2, hl, fun ns' p h1 h2 hp => o _ _ _ _ (q ns' h1 h2 p (rh.free hp)) (Go.new rh hp ⟨_, rfl, rps_ints'⟩) (.v _)⟩
      · exact q.elim
  · exact q.elim
end
def rds11 := (And.intro @pEqA_i (And.intro @pEqA_s (And.intro @pEqA_t (And.intro @pEqA_non (And.intro @pEqA_bl (And.intro @pEqA_r (And.intro @eqO_l (And.intro @pIsA_n (And.intro @pIsNotA_n (And.intro @pIsA_b (And.intro @pIsNotA_b (And.intro @sortOA_l (And.intro @sortOA_d (And.intro @cSortedA_r (And.intro @dLRg1.eq_1 trivial)))))))))))))))
end DL
/-! DLo: more methods: pop at an index -/
namespace DL
open PySem L2
section
variable {X : Cx} {B : Bs}
/-- pop at an index -/
def popAO (o : Option O) (a : Addr) (i : Int) (h : Hd) (Q : KD) : Prop := match o with
  | some (.lst xs) => (-(2 ^ 63) ≤ i ∧ i < 2 ^ 63) ∧ mO (seqIndex? i xs.length) fun k => mO xs[k]? fun y => Q y (put h a (.lst (xs.eraseIdx k)))
  | _ => False
def mPopA : MD := fun x ds h Q => match x, ds with
  | .v (.ref a), [.v (.int i)] => popAO (h a) a i h Q
  | _, _ => False
theorem dm_popA : DMt X "list.pop" mPopA := dmt_of mt_popAt fun x xs H Q ⟨dx, ds, h, Qd, rx, rv, rh, q, o⟩ => by
  unfold mPopA at q
  split at q
  · unfold popAO at q
    split at q
    · rename_i ys e
      obtain ⟨⟨h1, h2⟩, q⟩ := q
      obtain ⟨k, ek, q⟩ := mO_ex q
      obtain ⟨y, ey, q⟩ := mO_ex q
      cases rx
      cases rv with
      | cons r1 r2 =>
        cases r2; cases r1
        obtain ⟨vs, hv, r⟩ := lst_ok rh e
        obtain ⟨v, ev, rv⟩ := r.get ey
        have st : Stb H (upd H _ (.lst (vs.eraseIdx k))) := Stb.set hv trivial
        exact ⟨_, vs, _, k, v, rfl, rfl, hv, h1, h2, by rw [← r.length]; exact ek, ev, o _ _ _ _ q (Go.set rh e hv trivial ⟨_, rfl, (r.eraseIdx k).stb st⟩) (rv.stb st)⟩
    · exact q.elim
  · exact q.elim
variable {i : Int} {xs : List D} {h : Hd} {Q : KD} {p : Addr}
theorem popAO_l : popAO (some (.lst xs)) p i h Q = ((-(2 ^ 63) ≤ i ∧ i < 2 ^ 63) ∧ mO (seqIndex? i xs.length) fun k => mO xs[k]? fun y => Q y (put h p (.lst (xs.eraseIdx k)))) := rfl
theorem mPopA_s : mPopA (.v (.ref p)) [.v (.int i)] h Q = popAO (h p) p i h Q := rfl
end
def rds12 := (And.intro @popAO_l (And.intro @mPopA_s trivial))
theorem seqIx_nat {n m : Nat} (h : n < m) : seqIndex? (n : Int) m = some n := by
  unfold seqIndex?
  simp
  omega
end DL
/-! DLr: an own exception whose __init__ says super().__init__(..) and stores its parameters -/
namespace DL
open PySem PySem.Spec PyProof.Rows L2
/-- the frame of an __init__ that names its class -/
def cxS (P : Program) (w : World) (K : PySem.W.Frag) (mg : Str → Option Value) (base : Heap) (N : List Str) (fd : FuncData) (f : Addr) (A : Around) (outer : List Env) (s : Shared) (H : Hp) (E : XK) : Cx where
  prog := P
  w := w
  K := K
  mg := mg
  base := base
  A := A.deeper (callEnv fd s.heap.objs.size f)
  N := N
  s_0 := s
  H_0 := H
  env := callEnv fd s.heap.objs.size f
  outer := outer
  stack := callEnv fd s.heap.objs.size f :: outer
  ex := []
  calm := true
  fn := fun _ => false
  pn := []
  xe := fun e s' => wpAny (model P w) (A.deeper (callEnv fd s.heap.objs.size f)) (leaving (callEnv fd s.heap.objs.size f) e) (fun _ s'' => L2.CX P w outer H s E e s'') (fun e' s'' => L2.CX P w outer H s E e' s'') s'
/-- what the written part says of an __init__ -/
structure SupF (P : Program) (K : PySem.W.Frag) (mg : Str → Option Value) (C f : Addr) (fd : FuncData) (ps : List Str) : Prop where
  lk : ∃ oc od osl, K.lookup f = some ⟨oc, od, .func fd, osl⟩
  kind : fd.scope.kind = .function
  co : fd.scope.isCoroutine = false
  gen : fd.scope.isGenerator = false
  glob : fd.globals = mainGlobals
  blt : fd.builtins = builtinsNs
  cl : ∃ cc cl cld csl, fd.closure = [(("__class__" : Str), cc)] ∧ K.lookup cc = some ⟨cl, cld, .cell (some (.ref C)), csl⟩
  nd : ps.Nodup
  par : ∀ x ∈ ps, fd.scope.names.lookup x = some .local
  free : ∀ x, fd.scope.names.lookup x = some .free → x = "__class__"
  nocell : ∀ x ∈ fd.scope.names, x.2 ≠ .cell
  sup : fd.scope.names.lookup ("super" : Str) = some .globalImplicit
  cls : fd.scope.names.lookup ("__class__" : Str) = some .free
  mgs : mg "super" = none
  code : PySem.W.codeIn K fd.code fd.qualname = true
  cod : ∃ cda ccl cdd ccs vs file tf, fd.code = .ref cda ∧ K.lookup cda = some ⟨ccl, cdd, .fields vs, ccs⟩ ∧ vs[2]? = some (.str file tf) ∧ ((P.main.file : Str) == file) = true
  top : (P.main.scope.names.lookup ("super" : Str)).isSome = false
  first : ∃ ar, (fd.params.posonlyargs ++ fd.params.args).head? = some ar ∧ ps.head? = some ar.arg
  opq : PySem.W.nsIn K cStatics "thirdparty.any" = some none
  exc : OexC K C
  up : PySem.W.ks_superIn K C C "__init__" = some (some (.builtin "ValueError.__init__"))
  isV : PySem.W.subIn K (.ref C) (.type "ValueError") = some true
  self : PySem.W.mroIn K C (.ref C) = some true
section
variable {P : Program} {w : World} {K : PySem.W.Frag} {mg : Str → Option Value} {base : Heap} {fd : FuncData} {f C : Addr} {A : Around} {outer : List Env} {s : Shared} {H : Hp} {E : XK} {ps : List Str}
theorem inv_startS {us : List Value} {vs : List V} {h₁ : Heap} {tk : Nat} (S : SupF P K mg C f fd ps) (hd : A.handled = none) (e0 : Env0 P w K mg base A outer s H) (hl : vs.length = ps.length) (r : Vals vs us)
    (hns : h₁.Ns s.heap.objs.size fun y => (ps.zip us).reverse.lookup y) (kp : ∀ b o, s.heap.get? b = some o → h₁.get? b = some o) :
    Inv (cxS P w K mg base ps fd f A outer s H E) [] (L2.start ps vs) H { s with heap := h₁, toks := tk } := by
  obtain ⟨cc, cl, cld, csl, ecl, kcc⟩ := S.cl
  have noA : ∀ b : Addr, b ∉ (cxS P w K mg base ps fd f A outer s H E).ex := fun b z => absurd (show b ∈ ([] : List Addr) from z) (by simp)
  have KX : K.In base := e0.mod.kin
  have bcc : base.get? cc = some ⟨cl, cld, .cell (some (.ref C)), csl⟩ := KX _ _ kcc
  have look : ∀ x c, (callEnv fd s.heap.objs.size f).cells.lookup x = some c → x = "__class__" ∧ c = cc := fun x c h => by
    have h : fd.closure.lookup x = some c := h
    rw [ecl] at h
    by_cases e : x = ("__class__" : Str)
    · subst e
      simp [List.lookup] at h
      exact ⟨rfl, h.symm⟩
    · have : (x == ("__class__" : Str)) = false := by simpa using e
      simp [List.lookup, this] at h
  refine ⟨⟨e0.mod, S.kind, S.glob, S.blt, Nat.le_refl _, fun y z c h1 h2 => ?_, fun y hy => ?_, fun y c h _ => (by cases h), fun _ => hd, Around.frames_deeper e0.frames, .inr ⟨rfl, rfl⟩, fun b z => absurd z (noA b), e0.bs, e0.bsz, fun b _ _ => noA b, fun b z => absurd z (noA b), e0.funs, e0.frf⟩,
    rfl, e0.bare, Un.kept kp, ⟨_, hns, fun i y v h1 h2 h3 => ?_⟩, fun y c h => ?_, e0.hok.fresh (Nat.le_refl _), fun y c h => ?_, fun p hp => absurd (show p ∈ ([] : List (Addr × Obj)) from hp) (by simp), e0.hok.kept kp, ?_⟩
  · rw [(look _ _ h1).1, (look _ _ h2).1]
  · have hy : fd.scope.names.lookup y = some .cell ∨ fd.scope.names.lookup y = some .free := hy
    rcases hy with hy | hy
    · exact absurd rfl (S.nocell _ (PySem.mem_of_lookup hy))
    · refine ⟨cc, ?_⟩
      rw [S.free y hy]
      show fd.closure.lookup _ = _
      rw [ecl]
      simp [List.lookup]
  · have h1 : ps[i]? = some y := h1
    unfold L2.start at h2
    have hi : i < vs.length := by
      by_cases hi : i < vs.length
      · exact hi
      · rw [List.getElem?_append_right (by simpa using hi), List.getElem?_replicate] at h2
        split at h2 <;> cases h2
    rw [List.getElem?_append_left (by rw [List.length_map]; exact hi), List.getElem?_map] at h2
    have ha : vs[i]? = some v := by
      cases e : vs[i]? with
      | none => rw [e] at h2; cases h2
      | some a => rw [e] at h2; cases h2; rfl
    obtain ⟨u, hu, rv⟩ := r.get ha
    exact ⟨u, rv, .inl ⟨S.par y (List.mem_of_getElem? h1), NdefX.zip_look S.nd h1 hu⟩⟩
  · rw [(look _ _ h).2]
    exact ⟨_, _, kp _ _ (e0.bs _ _ bcc).1, rfl⟩
  · rw [(look _ _ h).2]
    exact (e0.bs _ _ bcc).2
  · unfold L2.start
    show _ = ps.length
    rw [List.length_append, List.length_map, List.length_replicate]
    omega
/-- super().__init__(..): the exception keeps its class, its dict, nothing else is told -/
theorem super_init {pins : List (Addr × Obj)} {σ : List (Option V)} {s1 : Shared} {H1 : Hp} {a : Addr} {e : Expr} {es : List Expr} {t : TA} {body : List Stmt} {p0 p1 p2 p3 : Pos} {pl : Sem Bool} (S : SupF P K mg C f fd ps)
    (I : Inv (cxS P w K mg base ps fd f A outer s H E) pins σ H1 s1) (h0 : σ[0]? = some (some (.ref a))) (ha : H1 a = some (exo a C none))
    (hargs : PA (cxS P w K mg base ps fd f A outer s H E) (e :: es) t) (hq : t σ H1 fun vs H2 => vs.length ≤ 1000 ∧ H2 = H1)
    {R : Value → Shared → Prop} {X : Value → Shared → Prop} (hR : ∀ s2, Inv (cxS P w K mg base ps fd f A outer s H E) pins σ H1 s2 → R .none s2)
    (hX : ∀ v s2, (cxS P w K mg base ps fd f A outer s H E).xe v s2 → X v s2)
    (he : starEach (e :: es) (callEnv fd s.heap.objs.size f) = (false, eval e (callEnv fd s.heap.objs.size f)) :: starEach es (callEnv fd s.heap.objs.size f) := by rfl) (hpl : (backTo p3 (starEach es (callEnv fd s.heap.objs.size f))).any (·.1) = false := by rfl)
    (hev : eval (.Call (.Attribute (.Call (.Name "super" p0) [] [] p1) "__init__" p2) (e :: es) [] p3) (callEnv fd s.heap.objs.size f) = (do
      let ov ← attributeBase (.Call (.Name "super" p0) [] [] p1) "__init__" (callEnv fd s.heap.objs.size f) (eval (.Call (.Name "super" p0) [] [] p1) (callEnv fd s.heap.objs.size f))
      standAt p2.atName
      let (f', first) ← holding [ov] (getMethod ov "__init__" pl)
      callWith p3 f' first (backTo p3 (starEach (e :: es) (callEnv fd s.heap.objs.size f))) []) := by rfl) :
    PySem.wpAt (model P w) (A.deeper (callEnv fd s.heap.objs.size f)) (.func body (callEnv fd s.heap.objs.size f))
      (eval (.Call (.Attribute (.Call (.Name "super" p0) [] [] p1) "__init__" p2) (e :: es) [] p3) (callEnv fd s.heap.objs.size f)) R X s1 := by
  obtain ⟨oc, od, osl, lk⟩ := S.lk
  obtain ⟨cc, cl, cld, csl, ecl, kcc⟩ := S.cl
  obtain ⟨cda, ccl, cdd, ccs, cvs, file, tf, ecd, kcd, hvs, hfile⟩ := S.cod
  obtain ⟨ar, har, hps⟩ := S.first
  have KX : K.In s1.heap := I.kIn
  have henvF : (callEnv fd s.heap.objs.size f).func = some f := rfl
  obtain ⟨m, hns, hloc⟩ := I.loc
  have hp0 : ps[0]? = some ar.arg := by rw [← List.head?_eq_getElem?]; exact hps
  have lpar := S.par ar.arg (List.mem_of_getElem? hp0)
  obtain ⟨u0, ru0, lu0⟩ := hloc 0 ar.arg (.ref a) hp0 h0 (.inl lpar)
  obtain rfl : u0 = Value.ref a := ru0
  have m0 : m ar.arg = some (.ref a) := by
    rcases lu0 with ⟨_, e⟩ | ⟨k, _⟩
    · exact e
    · have k : fd.scope.names.lookup ar.arg = some .cell ∨ fd.scope.names.lookup ar.arg = some .free := k
      rw [lpar] at k
      rcases k with k | k <;> cases k
  obtain ⟨t1, hx⟩ := exo_at I.hok ha
  obtain ⟨nm, qn, N0, bs, bm, sn, sub, ab, col, dd, k0, k1, k2, k3, k5, hC, hbm⟩ := S.exc.cls
  have hcd : PySem.W.clsIn K C = some { name := nm, bases := bs, mro := .ref C :: bm, ns := N0, qualname := qn, hasDict := true, slotNames := sn, subclasses := sub, abstract := ab, collection := col, hasDel := false } := by unfold PySem.W.clsIn; rw [hC]
  obtain ⟨hp, g, d, tk, os⟩ := s1
  refine PySem.ks_wpAt_MethodCall (pl := pl) ?_ hev
  refine PySem.ks_wpAt_super_base (f := f) (cc := cda) S.sup S.cls (by decide) rfl (KX _ _ lk) rfl har (by show fd.code = _; exact ecd) (KX _ _ kcd) rfl hvs hfile S.top ?_
  obtain ⟨mb, b1, b2⟩ := I.mod.blt
  refine PySem.W.ks_loadName_global S.kind S.sup (PySem.Calls.loadGlobal_builtin (by show hp.Ns fd.globals mg; rw [S.glob]; exact I.mod.glob.keeps I.bk) S.mgs (by show hp.Ns fd.builtins mb; rw [S.blt]; exact b1.keeps I.bk) ((b2 _ (by decide)).trans PyProof.Rows.Boot.«super») ⟨rfl, ?_⟩)
  refine wpAny_loadName_free S.kind S.cls (by show fd.closure.lookup _ = some cc; rw [ecl]; rfl) ⟨_, KX _ _ kcc, rfl⟩ ?_
  refine wpAny_loadName_local S.kind lpar hns m0 ?_
  have hCo : hp.get? C = some (excClassObj nm qn C N0 bs bm true sn sub ab col dd k0 k1 k2 k3 k5 "ValueError.__new__") := KX _ _ hC
  refine PySem.ks_wpAny_isType_cls hCo rfl ⟨rfl, ?_⟩
  refine PySem.ks_wpAny_call_super hCo rfl hx rfl (fun c z => by cases z) (PySem.W.looks_mroIn KX S.self) fun h1 e1 kp1 => ?_
  have I1 : Inv (cxS P w K mg base ps fd f A outer s H E) pins σ H1 ⟨h1, g, d, tk, os⟩ := I.kept kp1
  have IA : PySem.W.InstAt h1 a { cls := .ref C, dict := none, data := .fields #[.ref t1, .none, .none, .none, .bool false, .none] } C none := ⟨kp1 _ _ hx, rfl, rfl, trivial⟩
  have up := S.up
  unfold PySem.W.ks_superIn at up
  rw [hcd, Option.bind_some] at up
  refine PySem.W.kxs_getMethod PySem.W.kxs_ValueError e1 (PySem.W.looks_opaque I1.kIn S.opq) (l₀ := .ref C :: bm) ?_ rfl I1.kIn up (IA.type.andThen (PySem.W.looks_subIn I1.kIn S.isV)) (PySem.W.ks_ne I1.kIn IA hcd) (by decide) ?_
  · exact fun A Q E s k q => wpAny_bind ((PySem.W.looks_clsIn I1.kIn hcd) A _ E s k (wpAny_pure q))
  have kp2 : ∀ b o, h1.get? b = some o → (h1.push (PySem.W.kxs_mw "ValueError.__init__" a)).get? b = some o := fun b o e => Heap.get?_push_of_some _ e
  have gu : (h1.push (PySem.W.kxs_mw "ValueError.__init__" a)).get? h1.objs.size = some (PySem.W.kxs_mw "ValueError.__init__" a) := Heap.get?_push_at rfl rfl
  have I2 : Inv (cxS P w K mg base ps fd f A outer s H E) pins σ H1 ⟨h1.push (PySem.W.kxs_mw "ValueError.__init__" a), g, d, tk + 1, os⟩ := I1.kept (t' := tk + 1) kp2
  have I3 : Inv (cxS P w K mg base ps fd f A outer s H E) ((h1.objs.size, PySem.W.kxs_mw "ValueError.__init__" a) :: pins) σ H1 ⟨h1.push (PySem.W.kxs_mw "ValueError.__init__" a), g, d, tk + 1, os⟩ := I2.pins_of fun p hp => by
    rcases List.mem_cons.mp hp with rfl | hp
    · exact ⟨gu, I1.hok.fresh (Nat.le_refl _), fun z => by
        have := I1.lt
        rw [← z] at this
        exact absurd this (Nat.lt_irrefl _), I1.nofs (Nat.le_refl _), fun v z => by cases z⟩
    · exact I2.pin p (List.mem_append_right _ hp)
  show wpAny _ _ (callWith p3 (.ref h1.objs.size) [] (backTo p3 (starEach (e :: es) (callEnv fd s.heap.objs.size f))) []) _ _ _
  rw [he]
  refine PySem.W.kxs_callWith (i := "ValueError.__init__") (x := a) (by show (false || (backTo p3 (starEach es (callEnv fd s.heap.objs.size f))).any (·.1)) = false; rw [hpl]; rfl) ?_
  refine PySem.Calls.evalArgs_plain ?_
  have hrun := hargs.run p3 _ _ σ H1 _ I3 hq
  rw [show (cxS P w K mg base ps fd f A outer s H E).env = callEnv fd s.heap.objs.size f from rfl, he] at hrun
  refine wpAny_mono hrun (fun us s4 hh => ?_) (fun v s4 hv => hX v s4 hv)
  obtain ⟨vs, H4, I4, rv, hz, eH⟩ := hh
  subst eH
  have pu := I4.pin (h1.objs.size, PySem.W.kxs_mw "ValueError.__init__" a) (List.mem_append_right _ List.mem_cons_self)
  refine ⟨pu.1, ?_⟩
  obtain ⟨t4, hx4⟩ := exo_at I4.hok ha
  obtain ⟨hp4, g4, d4, tk4, os4⟩ := s4
  have hC4 : hp4.get? C = some (excClassObj nm qn C N0 bs bm true sn sub ab col dd k0 k1 k2 k3 k5 "ValueError.__new__") := I4.kIn _ _ hC
  have hul : us.length ≤ sizeLine := by
    rw [← Paired.length rv, sizeLine_eq]
    omega
  refine wpAny_call (codeAny_of_tree ?_)
  show wpAny _ (A.deeper (callEnv fd s.heap.objs.size f)).in1 (callAny (.ref h1.objs.size) ⟨us, []⟩) _ _ _
  simp only [callAny]
  refine wpAny_bind (wpAny_load pu.1 ?_)
  simp only [PySem.W.kxs_mw, show (Value.type "method-wrapper" == Value.type "method" || Value.type "method-wrapper" == Value.type "builtin_function_or_method" || Value.type "method-wrapper" == Value.type "method-wrapper") = true by decide, if_true]
  refine PySem.W.KFB.if_so (by decide) ?_
  refine wpAny_bind (PySem.W.check_bound_init PySem.F.excBase_ValueError.toExcCallFacts hC4 hx4 rfl ?_)
  refine wpAny_bind (wpAny_pure (wpAny_pure ?_))
  refine ⟨plainId_quiet PySem.F.excBase_ValueError.init.plain _, codeAny_builtin PySem.F.excBase_ValueError.initEntry ?_⟩
  refine PySem.W.exc_init_tree (cls := .ref C) (t0 := t4) (dv := none) (c2 := .none) (c3 := .none) (b4 := .bool false) hx4 hul fun h5 k5' g5 _ => ?_
  have J := I4.write (t' := tk4) (x := a) (e := a) (o := exo a C none) (by rw [ha]; exact True.intro) (.inl rfl) k5' ⟨_, g5⟩ (exo_ok g5)
  have eu : upd H4 a (exo a C none) = H4 := by
    funext b
    by_cases hb : b = a
    · rw [hb, upd_same, ha]
    · rw [upd_ne hb]
  rw [eu] at J
  exact hR _ (J.pins_of fun p hp => J.pin p (List.mem_append_right _ (List.mem_cons_of_mem _ (hp))))
/-- an __init__ over its super's: first that one, then its own statements -/
def spSup (C : Addr) (n : Nat) (tr : TS) (ps : List Str) : Sp := fun vs H Q _ => vs.length = ps.length ∧ ∃ (a : Addr) (ws : List V), vs = .ref a :: ws ∧ ws.length = n ∧ n ≤ 1000 ∧ H a = some (exo a C none) ∧ tr { nx := fun _ H' => Q .non H', rt := Q } (L2.start ps vs) H
theorem fn_sup {n k : Nat} {tr : TS} {e : Expr} {es rest : List Expr} {stms : List Stmt} {p0 p1 p2 p3 p4 : Pos} {pl : Nat → Sem Bool} {t : TA} (S : SupF P K mg C f fd ps)
    (hbody : fd.body = .stmts (.Expr (.Call (.Attribute (.Call (.Name "super" p0) [] [] p1) "__init__" p2) (e :: es) [] p3) p4 :: stms))
    (hargs : ∀ (A : Around) (outer : List Env) (s : Shared) (H : Hp) (E : XK), PA (cxS P w K mg base ps fd f A outer s H E) (e :: es) t)
    (hread : ∀ (a : Addr) (ws : List V) (H : Hp), ws.length = n → t (L2.start ps (.ref a :: ws)) H fun vs H2 => vs.length ≤ 1000 ∧ H2 = H)
    (hrest : ∀ (A : Around) (outer : List Env) (s : Shared) (H : Hp) (E : XK), PSs (cxS P w K mg base ps fd f A outer s H E) stms tr)
    (hsw : ∀ L, swapsWith (.Call (.Attribute (.Call (.Name "super" p0) [] [] p1) "__init__" p2) (e :: es) [] p3) none p4.line (callEnv fd L f) = pure false := by intro L; rfl)
    (he : ∀ L, starEach (e :: es) (callEnv fd L f) = (false, eval e (callEnv fd L f)) :: starEach es (callEnv fd L f) := by intro L; rfl) (hpl : ∀ L, (backTo p3 (starEach es (callEnv fd L f))).any (·.1) = false := by intro L; rfl)
    (hev : ∀ L, eval (.Call (.Attribute (.Call (.Name "super" p0) [] [] p1) "__init__" p2) (e :: es) [] p3) (callEnv fd L f) = (do
      let ov ← attributeBase (.Call (.Name "super" p0) [] [] p1) "__init__" (callEnv fd L f) (eval (.Call (.Name "super" p0) [] [] p1) (callEnv fd L f))
      standAt p2.atName
      let (f', first) ← holding [ov] (getMethod ov "__init__" (pl L))
      callWith p3 f' first (backTo p3 (starEach (e :: es) (callEnv fd L f))) []) := by intro L; rfl) :
    FnOk P w K mg base (L2.CX P w) (k + 1) f fd ps (spSup C n tr ps) := by
  refine ⟨fun vs H Q E q => q.1, fun A outer s H args us vs Q E hr e0 hb r hsp => ?_⟩
  obtain ⟨hl, a, ws, rfl, hn, hn2, ha, hq⟩ := hsp
  obtain ⟨oc, od, osl, lk⟩ := S.lk
  have KX : K.In s.heap := e0.mod.kin.keeps fun b o e => (e0.bs b o e).1
  have lim : s.heap.NoLimit := e0.mod.nolimit.keeps fun b o e => (e0.bs b o e).1
  refine PySem.ks_codeAny_call_defAt hr.depth (KX _ _ lk) rfl lim (PySem.W.codeRec_of KX S.code) hbody hb S.nocell (fun y hy => ?_) (fun h₁ hns kp => ?_) S.co S.gen S.kind
  · obtain ⟨y1, y2⟩ := y
    exact S.par y1 (List.of_mem_zip hy).1
  have I := inv_startS (E := E) (tk := s.toks + (ps.zip us).length) S hr.hd e0 hl r hns kp
  refine PySem.ks_wpAt_execs_cons ?_
  refine PySem.ks_wpAt_Expr_any ?_ (by simp [interactive, callEnv, newEnv, S.kind]) (hsw _)
  refine super_init S I rfl ha (hargs A outer s H E) (hread a ws H hn) (fun s2 J => ?_) (fun v s2 hv => ?_) (he _) (hpl _) (hev _)
  · show PySem.wpAt _ _ _ (execs stms _) _ _ _
    refine PySem.wpAt_of_wpAny ?_
    refine wpAny_mono ((hrest A outer s H E).run [] s2 _ H _ J hq) (fun fl s' hs => ?_) fun v s' hv => ?_
    · have fin : ∀ {σ' : List (Option V)} {H' : Hp} {v : V} {u : Value}, Inv (cxS P w K mg base ps fd f A outer s H E) [] σ' H' s' → RelV v u → Q v H' → CE outer P w H s Q u s' :=
        fun {σ' H' v u} J rv q => ⟨v, H', J.os, J.bare, J.base, J.hok, rv, q⟩
      cases fl with
      | ret u =>
        obtain ⟨v, σ', H', J, rv, q⟩ := hs
        exact fin J rv q
      | next =>
        obtain ⟨σ', H', J, q⟩ := hs
        exact fin (v := V.non) (u := Value.none) J rfl q
      | brk =>
        obtain ⟨_, _, _, q⟩ := hs
        exact False.elim q
      | cont =>
        obtain ⟨_, _, _, q⟩ := hs
        exact False.elim q
    · exact hv
  · exact hv
end
/-! ### raise, over data -/
/-- raise C(..): its fields in the order of the parameters -/
def dRaise (cls : Str) (fs : List Str) (E : ER) (t : AD) : SD := fun _ σ h => t σ h fun ds h1 => ds.length = fs.length ∧ E ⟨cls, (fs.zip ds).reverse⟩ σ h1
/-- self.f = p, the first one; the first two -/
def trInit1 (K : PySem.W.Frag) (f1 : Str) : TS := tSeq (tOst K f1 (L2.tVar 0) (L2.tVar 1)) tNext
def trInit2 (K : PySem.W.Frag) (f1 f2 : Str) : TS := tSeq (tOst K f1 (L2.tVar 0) (L2.tVar 1)) (tSeq (tOst K f2 (L2.tVar 0) (L2.tVar 2)) tNext)
/-- what a class of errors is known by -/
structure ExK (P : Program) (w : World) (K : PySem.W.Frag) (mg : Str → Option Value) (base : Heap) (x : Str) (fs : List Str) (C : Addr) : Prop where
  oex : OexC K C
  mgx : mg x = some (.ref C)
  no : ∀ f ∈ fs, PySem.W.findIn K (.ref C) f = some none
  nd : fs.Nodup
  ini : ∃ (fI : Addr) (fd : FuncData) (ps : List Str) (tr : TS), PySem.W.findIn K (.ref C) "__init__" = some (some (.ref fI)) ∧ PySem.W.typeIn K (.ref fI) = some (.type "function") ∧ Binds K fd ps [] ∧ ps.length = fs.length + 1 ∧
    (∀ k, FnOk P w K mg base (L2.CX P w) (k + 1) fI fd ps (spSup C fs.length tr ps)) ∧
    ((∃ f1, fs = [f1] ∧ tr = trInit1 K f1) ∨ ∃ f1 f2, fs = [f1, f2] ∧ tr = trInit2 K f1 f2)
theorem raise_heap {H1 : Hp} {a dx C : Addr} {fs : List (Str × V)} {o : HO} (hn : H1 a = none) (hd : dx ≠ a) : upd (del (upd (upd (upd H1 a o) dx (exd dx fs)) a (exo a C (some dx))) a) dx (.xd fs) = upd H1 dx (.xd fs) := by
  funext b
  by_cases hb : b = dx
  · subst hb; rw [upd_same, upd_same]
  · rw [upd_ne hb, upd_ne hb]
    by_cases ha : b = a
    · subst ha; rw [del_same, hn]
    · rw [del_ne ha, upd_ne ha, upd_ne hb, upd_ne ha]
theorem raise_heap2 {H1 : Hp} {a dx C : Addr} {fs gs : List (Str × V)} {o : HO} (hn : H1 a = none) (hd : dx ≠ a) : upd (del (upd (upd (upd (upd H1 a o) dx (exd dx gs)) a (exo a C (some dx))) dx (exd dx fs)) a) dx (.xd fs) = upd H1 dx (.xd fs) := by
  funext b
  by_cases hb : b = dx
  · subst hb; rw [upd_same, upd_same]
  · rw [upd_ne hb, upd_ne hb]
    by_cases ha : b = a
    · subst ha; rw [del_same, hn]
    · rw [del_ne ha, upd_ne hb, upd_ne ha, upd_ne hb, upd_ne ha]
section
variable {X : Cx} {B : Bs} {E : ER} {x : Str} {fs : List Str} {C : Addr} {e : Expr} {es : List Expr} {t : AD} {p pos pos' : Pos} {k : Nat}
theorem ds_raise (T : ExK X.prog X.w X.K X.mg X.base x fs C) (rg : Rg X B E) (hr : Room k X.A) (hk : 2 ≤ k) (ha : DA X B (e :: es) t) (hg : Gl X x := by rfl)
    (hdb : (x == ("__debug__" : Str)) = false := by decide) (he : starEach (e :: es) X.env = (false, eval e X.env) :: starEach es X.env := by rfl) (hpl : (backTo pos (starEach es X.env)).any (·.1) = false := by rfl) :
    DS X B (.Raise (some (.Call (.Name x p) (e :: es) [] pos)) none pos') (dRaise x fs E t) := by
  obtain ⟨W, tk, re⟩ := rg.tk
  obtain ⟨fI, fd, ps, tr, iC, tI, hb, hpsl, F, hsh⟩ := T.ini
  have mk := pmk_oex (x := x) (p := p) (pos := pos) (X := X) T.oex iC tI (F 0) (hr.mono hk) hb .nil passL hg T.mgx ha hdb he hpl
  refine ⟨fun pins s σV H DV I hh => (ps_raise rg.calm tk mk).run pins s σV H DV I ?_⟩
  obtain ⟨σ, h, D, r0, q, o⟩ := hh
  refine ⟨σ, h, _, r0, q, fun ds h1 vs H1 q1 g1 rp1 hl => ?_⟩
  obtain ⟨hds, ex⟩ := q1
  have vl : vs.length = fs.length := by rw [← rp1.length, hds]
  -- the exception at hand
  have out : ∀ (dx : Addr) (ws : List (Str × V)), H1 dx = none → RpK X.gv H1 (fs.zip ds).reverse ws → (fs ≠ []) → W (.ref C) (some dx) σV (upd H1 dx (.xd ws)) := fun dx ws hd hw _ => by
    have g2 : Go X.gv H1 h1 (upd H1 dx (.xd ws)) h1 := Go.hid g1.rh hd
    exact re _ σ h1 _ _ σV _ ex ((r0.next g1).next g2) ⟨T.mgx, .inr ⟨dx, ws, rfl, upd_same, hw.stb g2.st⟩⟩
  rcases hsh with ⟨f1, rfl, rfl⟩ | ⟨f1, f2, rfl, rfl⟩
  · obtain ⟨y, rfl⟩ : ∃ y, vs = [y] := by
      match vs, vl with
      | [y], _ => exact ⟨y, rfl⟩
    refine ⟨by show 1 ≤ 1000; decide, fun a hn => ⟨by show 2 = ps.length; rw [hpsl]; rfl, a, [y], rfl, rfl, by show 1 ≤ 1000; decide, upd_same, ?_⟩⟩
    refine ⟨y, rfl, .ref a, rfl, a, C, rfl, T.oex, T.no f1 List.mem_cons_self, .inl ⟨upd_same, fun dx hd hda => ?_⟩⟩
    rw [upd_ne hda] at hd
    refine ⟨rfl, dx, [(f1, y)], upd_same, by rw [upd_ne hda]; exact upd_same, hd, ?_⟩
    rw [raise_heap hn hda]
    refine out dx _ hd ?_ (by simp)
    match ds, hds, rp1 with
    | [d], _, .cons r .nil => exact .cons ⟨rfl, r⟩ .nil
  · obtain ⟨y, z, rfl⟩ : ∃ y z, vs = [y, z] := by
      match vs, vl with
      | [y, z], _ => exact ⟨y, z, rfl⟩
    refine ⟨by show 2 ≤ 1000; decide, fun a hn => ⟨by show 3 = ps.length; rw [hpsl]; rfl, a, [y, z], rfl, rfl, by show 2 ≤ 1000; decide, upd_same, ?_⟩⟩
    refine ⟨y, rfl, .ref a, rfl, a, C, rfl, T.oex, T.no f1 List.mem_cons_self, .inl ⟨upd_same, fun dx hd hda => ?_⟩⟩
    rw [upd_ne hda] at hd
    refine ⟨z, rfl, .ref a, rfl, a, C, rfl, T.oex, T.no f2 (List.mem_cons_of_mem _ List.mem_cons_self), .inr ⟨dx, [(f1, y)], upd_same, by rw [upd_ne hda]; exact upd_same, by show 1 ≤ 900; decide, ?_⟩⟩
    refine ⟨rfl, dx, [(f2, z), (f1, y)], by rw [upd_ne hda.symm]; exact upd_same, upd_same, hd, ?_⟩
    rw [raise_heap2 hn hda]
    refine out dx _ hd ?_ (by simp)
    match ds, hds, rp1 with
    | [d, d2], _, .cons r (.cons r2 .nil) => exact .cons ⟨rfl, r2⟩ (.cons ⟨rfl, r⟩ .nil)
end
end DL
/-! DLt: try with several clauses, some with a name; what is asked of a caught exception -/
namespace DL
open PySem PySem.Spec PyProof.Rows L2
abbrev SuiteV := Addr → Value → Option Addr → TS
/-- an end behind a named clause: its slot is forgotten -/
def dropI (i : Option Nat) (D : Ends) : Ends := match i with
  | none => D
  | some i => { nx := fun z G => D.nx (z.set i none) G, rt := D.rt, bk := fun z G => D.bk (z.set i none) G, ct := fun z G => D.ct (z.set i none) G }
def keepI (i : Option Nat) (σ : List (Option V)) (a : Addr) : List (Option V) := match i with
  | none => σ
  | some i => σ.set i (some (.ref a))
/-- what the clauses wish, one behind the other -/
def wMix (K : PySem.W.Frag) (out : WX) (D : Ends) : List (Value × Option Nat × SuiteV) → WX
  | [] => out
  | (c, i, ts) :: more => fun k dd z G => ∃ hit, PySem.W.exmOne K k c = some hit ∧ (hit = true → ∀ ea, G ea = none → ts ea k dd (dropI i D) (keepI i z ea) G) ∧ (hit = false → wMix K out D more k dd z G)
inductive Clauses (X : Cx) : List ExceptHandler → List (Value × Option Nat × SuiteV) → Prop
  | nil : Clauses X [] []
  | plain {nm : Str} {c : Value} {ts : SuiteV} {st0 : Stmt} {sts : List Stmt} {p1 p2 : Pos} {more : List ExceptHandler} {ws : List (Value × Option Nat × SuiteV)} (known : Names X nm c)
      (walk : ∀ (ea : Addr) (eo : Obj) (k : Value) (dd : Option Addr) (pl : List (Addr × Obj)), Zc k dd eo → (∃ us, eo.data = .fields us) → PSs (X.suite ea ((ea, eo) :: pl)) (st0 :: sts) (ts ea k dd)) (tail : Clauses X more ws) :
      Clauses X (.ExceptHandler (some (.Name nm p1)) none (st0 :: sts) p2 :: more) ((c, none, ts) :: ws)
  | named {nm v : Str} {c : Value} {i : Nat} {ts : SuiteV} {st0 : Stmt} {sts : List Stmt} {p1 p2 : Pos} {more : List ExceptHandler} {ws : List (Value × Option Nat × SuiteV)} (known : Names X nm c) (slot : X.N[i]? = some v) (loc : X.env.kindOf v = some .local)
      (walk : ∀ (ea : Addr) (eo : Obj) (k : Value) (dd : Option Addr) (pl : List (Addr × Obj)), Zc k dd eo → (∃ us, eo.data = .fields us) → PSs (X.suite ea ((ea, eo) :: pl)) (st0 :: sts) (ts ea k dd)) (tail : Clauses X more ws) :
      Clauses X (.ExceptHandler (some (.Name nm p1)) (some v) (st0 :: sts) p2 :: more) ((c, some i, ts) :: ws)
section
variable {X : Cx} {body : List Stmt} {first : ExceptHandler} {others : List ExceptHandler} {ws : List (Value × Option Nat × SuiteV)} {at_ : Pos} {tb : WX → TS} {out : WX}
theorem ps_try_mix (hstk : X.stack = X.env :: X.outer) (hfrm : X.env.frame = some X.env.locals) (hnd : X.N.Nodup) (hout : Takes X out)
    (hwalk : ∀ (W : WX) (pl : List (Addr × Obj)) (xe : Value → Shared → Prop), Takes (X.tr pl xe) W → PassesOwn (model X.prog X.w) X.A X.env xe → PSs (X.tr pl xe) body (tb W))
    (hcl : Clauses X (first :: others) ws) : PS X (.Try body (first :: others) [] [] at_) (fun D z G => tb (wMix X.K out D ws) D z G) := by
  refine ⟨fun pins s z G D I0 hh => ?_⟩
  have okX := I0.ok
  have frm : X.A.frames = some (X.env :: X.outer) := by rw [okX.frames, hstk]
  refine wpAny_Try_except ?_
  refine wpAny_mono ((hwalk (wMix X.K out D ws) (X.pn ++ pins) (fun ev u1 => wpAny (model X.prog X.w) X.A (noteFrame ev X.env) (fun _ u2 => wpAny (model X.prog X.w) X.A (setFlight ev none)
    (fun _ u3 => wpAny (model X.prog X.w) X.A (handleBy ev X.env (first :: others)) (SP X pins D) X.xe u3) X.xe u2) X.xe u1) (fun ev u got => ?_) PassesOwn.looking).run [] s z G D (I0.toTry _) hh) (fun fl u hsp => ?_) (fun ev u hv => hv)
  · -- caught
    obtain ⟨ea, Bh, uI, pins2, z2, G2, k, dd, rfl, IT, nobj, upto, air, free, osq, barq, wish⟩ := got
    have IX : Inv X pins z2 G2 uI := IT.ofTry okX
    have air2 : Sky Bh (X.env :: X.outer) ea (Zc k dd) X.env.locals u.heap := by rw [← hstk]; exact air
    show wpAny (model X.prog X.w) X.A (noteFrame (.ref ea) X.env) _ _ _
    refine Sky.land Zc.steady frm hfrm air2 fun hp3 fly3 upto3 => ?_
    have I3 : Inv X pins z2 G2 { u with heap := hp3 } := IX.landed nobj fly3.1 (upto.trans upto3) osq barq
    obtain ⟨eo3, us3, ge3, gz3, gd3⟩ := fly3.there
    have nofrm : ea ∉ frs (X.env :: X.outer) := fun hm => by
      obtain ⟨_, ob, eo, nof⟩ := fly3.2.2.1.mem hm
      rw [ge3] at eo
      cases eo
      exact nof _ gd3
    have nloc : ea ≠ X.env.locals := fun e => nofrm (List.mem_filterMap.mpr ⟨X.env, List.mem_cons_self, by rw [hfrm, e]⟩)
    have nout : ea ∉ X.fs := fun hm => by
      obtain ⟨ev, hv, q⟩ := List.mem_filterMap.mp hm
      exact nofrm (List.mem_filterMap.mpr ⟨ev, List.mem_cons_of_mem _ hv, q⟩)
    have IS3 := I3.suite ge3 gd3 free nloc nout
    have asked : ∀ {nm : Str} {c : Value} {np : Pos} {hit : Bool} {Q : Value → Shared → Prop} {E : Value → Shared → Prop}, Names X nm c → Q c { u with heap := hp3 } → wpAny (model X.prog X.w) (X.A.mark (some (.ref ea))) (eval (.Name nm np) X.env) Q E { u with heap := hp3 } := fun {nm c np hit Q E} known q => by
      obtain ⟨hg, hdb, hm | ⟨hm, hv, hnn⟩⟩ := known
      · exact ld_glob (X := X.suite ea ((ea, eo3) :: (X.pn ++ pins))) IS3 hg hm q hdb
      · exact ld_blt (X := X.suite ea ((ea, eo3) :: (X.pn ++ pins))) IS3 hg hm hv q hnn hdb
    have looksT : PySem.W.Looks (model X.prog X.w) hp3 (typeOf (.ref ea)) k := fun A Q E u5 kp q => wpAny_typeOf_ref (kp _ _ ge3) (by rw [gz3.1]; exact q)
    have go : ∀ {hl : List ExceptHandler} {wl : List (Value × Option Nat × SuiteV)}, Clauses X hl wl → wMix X.K out D wl k dd z2 G2 → wpAny (model X.prog X.w) X.A (handleBy (.ref ea) X.env hl) (SP X pins D) X.xe { u with heap := hp3 } := by
      intro hl wl hc
      induction hc with
      | nil =>
        intro wish
        refine wpAny_handleBy_nil ?_
        obtain ⟨f1, f2, f3, eo, us, T, oT, ts', ge, gz, gd, h1, hr⟩ := id fly3
        unfold PySem.passOn
        refine wpAny_bind (wpAny_field ge gd h1 ?_)
        rw [if_neg (show ¬ ((Value.ref T == Value.none) = true) from (by simp))]
        have away : wpAny (model X.prog X.w) X.A (setFlight (.ref ea) X.env.frame) (fun _ u4 => wpAny (model X.prog X.w) X.A (throw (.ref ea) : Sem Flow) (SP X pins D) X.xe u4) X.xe { u with heap := hp3 } := by
          rw [hfrm]
          exact HandSPX.setFlight_upZ fly3 fun hp4 held4 upto4 => wpAny_throw (hout _ _ ⟨ea, Bh, uI, pins, z2, G2, k, dd, rfl, IX, nobj, (upto.trans upto3).trans upto4, .inr (.inr (by rw [hstk]; exact held4)), free, osq, barq, wish⟩)
        first
          | exact wpAny_bind (wpAny_pure (wpAny_bind away))
          | exact wpAny_bind away
      | @plain nm c ts st0 sts p1 p2 more ws2 known walk tail ih =>
        intro wish
        obtain ⟨hit, eh, yes, no⟩ := wish
        refine wpAny_handleBy_cons (codeAny_handlers_test ?_) (by intro q; cases q)
        refine asked (hit := hit) known ((PySem.W.exm_one (M := model X.prog X.w) (I3.kIn) looksT eh).here ?_)
        cases hit with
        | true =>
          refine codeAny_handlers_suite ?_
          refine HandSPX.lands_againZ fly3 fun hp4 fly4 upto4 => ?_
          have I4 : Inv X pins z2 G2 { u with heap := hp4 } := IX.landed nobj fly4.1 ((upto.trans upto3).trans upto4) osq barq
          obtain ⟨eo4, us4, ge4, gz4, gd4⟩ := fly4.there
          refine wpAny_mono ((walk ea eo4 k dd (X.pn ++ pins) gz4 ⟨_, gd4⟩).run [] _ _ G2 _ (I4.suite ge4 gd4 free nloc nout) (yes rfl ea free)) (fun fl u6 hsp => ?_) (fun _ _ q => False.elim q)
          cases fl with
          | ret rv =>
            obtain ⟨v6, z6, G6, I6, r6, q6⟩ := hsp
            exact ⟨_, _, _, I6.unsuite okX, r6, q6⟩
          | _ =>
            obtain ⟨z6, G6, I6, q6⟩ := hsp
            exact ⟨_, _, I6.unsuite okX, q6⟩
        | false => exact ih (no rfl)
      | @named nm v c i ts st0 sts p1 p2 more ws2 known slot loc walk tail ih =>
        intro wish
        obtain ⟨hit, eh, yes, no⟩ := wish
        refine wpAny_handleBy_cons (codeAny_handlers_test ?_) (by intro q; cases q)
        refine asked (hit := hit) known ((PySem.W.exm_one (M := model X.prog X.w) (I3.kIn) looksT eh).here ?_)
        cases hit with
        | true =>
          refine codeAny_handlers_suite_as ?_
          refine HandSPX.lands_againZ fly3 fun hp4 fly4 upto4 => ?_
          have I4 : Inv X pins z2 G2 { u with heap := hp4 } := IX.landed nobj fly4.1 ((upto.trans upto3).trans upto4) osq barq
          obtain ⟨eo4, us4, ge4, gz4, gd4⟩ := fly4.there
          refine store_ok (X := X.suite ea ((ea, eo4) :: (X.pn ++ pins))) (v := .ref ea) (I4.suite ge4 gd4 free nloc nout) hnd slot (.inl loc) rfl (fun u5 I5 => ?_) (.inr loc)
          refine wpAny_mono ((walk ea eo4 k dd (X.pn ++ pins) gz4 ⟨_, gd4⟩).run [] u5 _ G2 _ I5 (yes rfl ea free)) (fun fl u6 hsp => ?_) (fun _ _ q => False.elim q)
          cases fl with
          | ret rv =>
            obtain ⟨v6, z6, G6, I6, r6, q6⟩ := hsp
            exact gone_ok (I6.unsuite okX) hnd slot loc fun u7 I7 => ⟨_, _, _, I7, r6, q6⟩
          | _ =>
            obtain ⟨z6, G6, I6, q6⟩ := hsp
            exact gone_ok (I6.unsuite okX) hnd slot loc fun u7 I7 => ⟨_, _, I7, q6⟩
        | false => exact ih (no rfl)
    exact go hcl wish
  · cases fl with
    | next =>
      obtain ⟨z6, G6, I6, q⟩ := hsp
      exact wpAny_execs_nil ⟨z6, G6, I6.ofTry okX, q⟩
    | ret rv =>
      obtain ⟨v6, z6, G6, I6, r6, q⟩ := hsp
      exact ⟨v6, z6, G6, I6.ofTry okX, r6, q⟩
    | _ =>
      obtain ⟨z6, G6, I6, q⟩ := hsp
      exact ⟨z6, G6, I6.ofTry okX, q⟩
end
/-! ### over data -/
abbrev HndD := Str × Option Nat × (Addr → XD → SD)
def dropD (i : Option Nat) (D : EndsD) : EndsD := match i with
  | none => D
  | some i => { nx := fun σ h => D.nx (σ.set i none) h, rt := D.rt, bk := fun σ h => D.bk (σ.set i none) h, ct := fun σ h => D.ct (σ.set i none) h }
def keepD (i : Option Nat) (σ : Sd) (a : Addr) : Sd := match i with
  | none => σ
  | some i => σ.set i (some (.v (.ref a)))
/-- what the clauses wish; tab: whether a class is one of another -/
def hE (tab : Str → Str → Option Bool) (E : ER) (D : EndsD) : List HndD → ER
  | [] => E
  | (c, i, ts) :: r => fun x σ h => ∃ b, tab x.cls c = some b ∧ (b = true → ∀ a, h a = none → ts a x (dropD i D) (keepD i σ a) h) ∧ (b = false → hE tab E D r x σ h)
def dTry (b : ER → SD) (tab : Str → Str → Option Bool) (hs : List HndD) (E : ER) : SD := fun D σ h => b (hE tab E D hs) D σ h
/-- the value that a class's name stands for -/
def NmV (mg : Str → Option Value) (n : Str) (u : Value) : Prop := (n == ("__debug__" : Str)) = false ∧ (mg n = some u ∨ (mg n = none ∧ bootBuiltins n = some u ∧ n ≠ "__name__"))
def suiteV (G : Gv) (ts : Addr → XD → SD) : SuiteV := fun a k dd DV σV H => ∃ x σ h D, RelS G H σ σV ∧ RelH G H h ∧ RelX G H x k dd ∧ ts a x D σ h ∧ OutS G H h D DV
inductive ClausesD (X : Cx) (tab : Str → Str → Option Bool) : List ExceptHandler → List HndD → Prop
  | nil : ClausesD X tab [] []
  | plain {nm : Str} {ts : Addr → XD → SD} {st0 : Stmt} {sts : List Stmt} {p1 p2 : Pos} {more : List ExceptHandler} {hs : List HndD} (known : ∃ u, NmV X.mg nm u ∧ ∀ n b k, tab n nm = some b → X.mg n = some k → PySem.W.exmOne X.K k u = some b)
      (walk : ∀ (ea : Addr) (eo : Obj) (k : Value) (dd : Option Addr) (pl : List (Addr × Obj)), Zc k dd eo → (∃ us, eo.data = .fields us) → ∀ (x : XD) (B : Bs), RelH X.gv B.H B.h → RelX X.gv B.H x k dd → DSs (X.suite ea ((ea, eo) :: pl)) B (st0 :: sts) (ts ea x))
      (tail : ClausesD X tab more hs) (gl : Gl X nm := by rfl) : ClausesD X tab (.ExceptHandler (some (.Name nm p1)) none (st0 :: sts) p2 :: more) ((nm, none, ts) :: hs)
  | named {nm v : Str} {i : Nat} {ts : Addr → XD → SD} {st0 : Stmt} {sts : List Stmt} {p1 p2 : Pos} {more : List ExceptHandler} {hs : List HndD} (known : ∃ u, NmV X.mg nm u ∧ ∀ n b k, tab n nm = some b → X.mg n = some k → PySem.W.exmOne X.K k u = some b)
      (walk : ∀ (ea : Addr) (eo : Obj) (k : Value) (dd : Option Addr) (pl : List (Addr × Obj)), Zc k dd eo → (∃ us, eo.data = .fields us) → ∀ (x : XD) (B : Bs), RelH X.gv B.H B.h → RelX X.gv B.H x k dd → DSs (X.suite ea ((ea, eo) :: pl)) B (st0 :: sts) (ts ea x))
      (tail : ClausesD X tab more hs) (slot : X.N[i]? = some v := by rfl) (loc : X.env.kindOf v = some .local := by rfl) (gl : Gl X nm := by rfl) : ClausesD X tab (.ExceptHandler (some (.Name nm p1)) (some v) (st0 :: sts) p2 :: more) ((nm, some i, ts) :: hs)
theorem outs_drop {G : Gv} {H : Hp} {h : Hd} {D : EndsD} {DV : Ends} (o : OutS G H h D DV) (i : Option Nat) : OutS G H h (dropD i D) (dropI i DV) := by
  cases i with
  | none => exact o
  | some i =>
    have un : ∀ {H' : Hp} {σ : Sd} {σV : List (Option V)}, RelS G H' σ σV → RelS G H' (σ.set i none) (σV.set i none) := fun {H' σ σV} r => by
      refine ⟨by rw [List.length_set, List.length_set]; exact r.1, fun j d e => ?_⟩
      by_cases c : i = j
      · subst c
        rw [List.getElem?_set] at e
        split at e
        · split at e <;> cases e
        · rename_i k; exact absurd rfl k
      · rw [List.getElem?_set_ne c] at e
        rw [List.getElem?_set_ne c]
        exact r.2 j d e
    exact ⟨fun σ' h' σV' H' q g r => o.nx _ _ _ _ q g (un r), o.rt, fun σ' h' σV' H' q g r => o.bk _ _ _ _ q g (un r), fun σ' h' σV' H' q g r => o.ct _ _ _ _ q g (un r)⟩
theorem rels_keep {G : Gv} {H : Hp} {σ : Sd} {σV : List (Option V)} (r : RelS G H σ σV) (i : Option Nat) (a : Addr) : RelS G H (keepD i σ a) (keepI i σV a) := by
  cases i with
  | none => exact r
  | some i => exact r.set (.v _)
section
variable {X : Cx} {B : Bs} {E : ER} {body : List Stmt} {first : ExceptHandler} {others : List ExceptHandler} {at_ : Pos} {b : ER → SD} {tab : Str → Str → Option Bool} {hs : List HndD}
theorem clauses_of {hl : List ExceptHandler} (c : ClausesD X tab hl hs) : ∃ ws, Clauses X hl ws ∧ ∀ (Wout : WX) (Bt : Bs) (D : EndsD) (DV : Ends), OutS X.gv Bt.H Bt.h D DV → RegE X.gv Bt E Wout → RegE X.gv Bt (hE tab E D hs) (wMix X.K Wout DV ws) := by
  induction c with
  | nil => exact ⟨[], .nil, fun Wout Bt D DV o re => re⟩
  | @plain nm ts st0 sts p1 p2 more hs known walk tail gl ih =>
    obtain ⟨u, ⟨hdb, hu⟩, he⟩ := known
    obtain ⟨ws, cl, reg⟩ := ih
    refine ⟨(u, none, suiteV X.gv ts) :: ws, .plain ⟨gl, hdb, hu⟩ (fun ea eo k dd pl hz hf => ⟨fun pins s σV H DV I ⟨x, σ, h, D, rs, rh, rx, q, o⟩ => (walk ea eo k dd pl hz hf x ⟨H, h⟩ rh rx).run pins s σV H DV I ⟨σ, h, D, ⟨Go.refl rh, rs⟩, q, o⟩⟩) cl, fun Wout Bt D DV o re x σ h cls d σV H ex r0 rx => ?_⟩
    obtain ⟨b, tb, yes, no⟩ := ex
    refine ⟨b, he _ _ _ tb rx.1, fun eb ea hn => ?_, fun eb => reg Wout Bt D DV o re x σ h cls d σV H (no eb) r0 rx⟩
    exact ⟨x, _, h, _, rels_keep r0.s none ea, r0.h, rx, yes eb ea (r0.h.free hn), outs_drop (o.on r0.go) none⟩
  | @named nm v i ts st0 sts p1 p2 more hs known walk tail slot loc gl ih =>
    obtain ⟨u, ⟨hdb, hu⟩, he⟩ := known
    obtain ⟨ws, cl, reg⟩ := ih
    refine ⟨(u, some i, suiteV X.gv ts) :: ws, .named ⟨gl, hdb, hu⟩ slot loc (fun ea eo k dd pl hz hf => ⟨fun pins s σV H DV I ⟨x, σ, h, D, rs, rh, rx, q, o⟩ => (walk ea eo k dd pl hz hf x ⟨H, h⟩ rh rx).run pins s σV H DV I ⟨σ, h, D, ⟨Go.refl rh, rs⟩, q, o⟩⟩) cl, fun Wout Bt D DV o re x σ h cls d σV H ex r0 rx => ?_⟩
    obtain ⟨b, tb, yes, no⟩ := ex
    refine ⟨b, he _ _ _ tb rx.1, fun eb ea hn => ?_, fun eb => reg Wout Bt D DV o re x σ h cls d σV H (no eb) r0 rx⟩
    exact ⟨x, _, h, _, rels_keep r0.s (some i) ea, r0.h, rx, yes eb ea (r0.h.free hn), outs_drop (o.on r0.go) (some i)⟩
theorem ds_try (rg : Rg X B E) (hnd : X.N.Nodup) (hwalk : ∀ (pl : List (Addr × Obj)) (xe : Value → Shared → Prop) (Bt : Bs) (Et : ER), Rg (X.tr pl xe) Bt Et → DSs (X.tr pl xe) Bt body (b Et))
    (hcl : ClausesD X tab (first :: others) hs) (hstk : X.stack = X.env :: X.outer := by rfl) (hfrm : X.env.frame = some X.env.locals := by rfl) : DS X B (.Try body (first :: others) [] [] at_) (dTry b tab hs E) := by
  obtain ⟨W, tk, re⟩ := rg.tk
  obtain ⟨ws, cl, reg⟩ := clauses_of (E := E) hcl
  have main := ps_try_mix (body := body) (at_ := at_) (tb := fun W' DV σV H => ∃ σ h D E', RelS X.gv H σ σV ∧ RelH X.gv H h ∧ RegE X.gv ⟨H, h⟩ E' W' ∧ b E' D σ h ∧ OutS X.gv H h D DV) hstk hfrm hnd tk
    (fun W' pl xe tk' po => ⟨fun pins s σV H DV I ⟨σ, h, D, E', rs, rh, re', q, o⟩ => (hwalk pl xe ⟨H, h⟩ E' ⟨rg.calm, po, W', tk', re'⟩).run pins s σV H DV I ⟨σ, h, D, ⟨Go.refl rh, rs⟩, q, o⟩⟩) cl
  refine ⟨fun pins s σV H DV I hh => main.run pins s σV H DV I ?_⟩
  obtain ⟨σ, h, D, r0, q, o⟩ := hh
  refine ⟨σ, h, D, _, r0.s, r0.h, reg W ⟨H, h⟩ D DV o ?_, q, o⟩
  intro x σ' h' cls d σV' H' ex r1 rx
  exact re x σ' h' cls d σV' H' ex ⟨r0.go.trans r1.go, r1.s⟩ rx
end
end DL
/-! DLu: fields of a caught exception, what it is an instance of; the table of a text's errors -/
namespace DL
open PySem PySem.Spec PyProof.Rows L2
def gsIs (i : Nat) (a : Addr) : ED := fun σ h Q => gS σ i = some (.v (.ref a)) ∧ Q (.v (.ref a)) h
/-- e.f -/
def dXf (i : Nat) (a : Addr) (x : XD) (ft : List (Str × Str)) (f : Str) : ED := fun σ h Q => gS σ i = some (.v (.ref a)) ∧ (x.cls, f) ∈ ft ∧ ∃ y, x.fs.lookup f = some y ∧ Q y h
/-- isinstance(e, C), isinstance(e, (C, ..)) -/
def anyT (tab : Str → Str → Option Bool) (n : Str) : List Str → Option Bool
  | [] => some false
  | c :: r => match tab n c with
    | some true => some true
    | some false => anyT tab n r
    | none => none
def dXi (i : Nat) (a : Addr) (x : XD) (own : List Str) (tab : Str → Str → Option Bool) (c : Str) : ED := fun σ h Q => gS σ i = some (.v (.ref a)) ∧ x.cls ∈ own ∧ ∃ b, tab x.cls c = some b ∧ Q (.v (.bl b)) h
def dXis (i : Nat) (a : Addr) (x : XD) (own : List Str) (tab : Str → Str → Option Bool) (cs : List Str) : ED := fun σ h Q => gS σ i = some (.v (.ref a)) ∧ x.cls ∈ own ∧ ∃ b, anyT tab x.cls cs = some b ∧ Q (.v (.bl b)) h
/-- an own class of errors -/
structure OwnX (K : PySem.W.Frag) (C : Addr) : Prop where
  xf : XfC K C
  ha : PySem.W.findIn K (.ref C) "__class__" = some (some (.builtin "object.__class__"))
  hn : PySem.W.specialIn K (.builtin "object.__class__") "__get__" = some (some (.builtin "getset_descriptor.__get__"))
  ht : PySem.W.takesIn K (.builtin "object.__class__") = some true
  hm : PySem.W.mroIn K C (.type "object") = some true
  cl : (PySem.W.clsIn K C).isSome = true
/-- a text's errors: its own ones with fields that are read; the classes that are named -/
structure ErT (K : PySem.W.Frag) (mg : Str → Option Value) (tab : Str → Str → Option Bool) (own : List Str) (ft : List (Str × Str)) (named : List Str) : Prop where
  own : ∀ n ∈ own, ∃ C, mg n = some (.ref C) ∧ OwnX K C
  ft : ∀ p ∈ ft, ∃ C, mg p.1 = some (.ref C) ∧ XfC K C ∧ PySem.W.findIn K (.ref C) p.2 = some none
  named : ∀ c ∈ named, ∃ w u, NmV mg c u ∧ ClsV w u ∧ RelV w u ∧ ∀ n b k, tab n c = some b → mg n = some k → PySem.W.kitOne K k u = some b ∧ PySem.W.exmOne K k u = some b
theorem kitAny_of {K : PySem.W.Frag} {k : Value} {tab : Str → Str → Option Bool} {n : Str} : ∀ {cs : List Str} {us : List Value}, Paired (fun c u => ∀ b, tab n c = some b → PySem.W.kitOne K k u = some b) cs us → ∀ {b}, anyT tab n cs = some b → PySem.W.kitAny K k us = some b
  | _, _, .nil, b, h => by cases h; rfl
  | c :: cs, u :: us, .cons p t, b, h => by
    unfold anyT at h
    unfold PySem.W.kitAny
    split at h
    · rename_i e; cases h; rw [p _ e]
    · rename_i e; rw [p _ e]; exact kitAny_of t h
    · cases h
section
variable {X : Cx} {B : Bs} {ea : Addr} {eo : Obj} {k : Value} {dd : Option Addr} {pl : List (Addr × Obj)} {x : XD} {tab : Str → Str → Option Bool} {own named : List Str} {ft : List (Str × Str)} {i : Nat} {v f : Str} {p pos : Pos}
/-- the dict of the exception stands as it stood -/
theorem rx_keep {G : Gv} {B : Bs} {H : Hp} {h : Hd} (rh : RelH G B.H B.h) (rx : RelX G B.H x k dd) (g : Go G B.H B.h H h) : RelX G H x k dd := by
  refine ⟨rx.1, ?_⟩
  rcases rx.2 with e | ⟨d, vs, ed, eh, rp⟩
  · exact .inl e
  · refine .inr ⟨d, vs, ed, ?_, rp.stb g.st⟩
    have : B.h d = none := by
      cases q : B.h d with
      | none => rfl
      | some o =>
        obtain ⟨u, hu, ok⟩ := rh d o q
        rw [eh] at hu
        cases hu
        cases o with
        | lst ds => obtain ⟨_, z, _⟩ := ok; cases z
        | dk kvs => obtain ⟨_, z, _⟩ := ok; cases z
        | dt kvs => obtain ⟨_, z, _⟩ := ok; cases z
        | ins C fs => obtain ⟨_, _, _, _, z, _⟩ := ok; cases z
    exact (g.fr d _ eh this).1
theorem rpk_look {G : Gv} {H : Hp} {f : Str} {y : D} : ∀ {fs : List (Str × D)} {vs : List (Str × V)}, RpK G H fs vs → fs.lookup f = some y → ∃ w, vs.lookup f = some w ∧ Rp G.K H y w
  | (g, d) :: fs, (g', w) :: vs, .cons ⟨e, r⟩ t, h => by
    cases (show g = g' from e)
    by_cases c : f = g
    · subst c
      simp [List.lookup] at h ⊢
      subst h
      exact r
    · have c' : (f == g) = false := by simpa using c
      simp only [List.lookup, c'] at h ⊢
      exact rpk_look t h
theorem de_xf (T : ErT X.K X.mg tab own ft named) (hz : Zc k dd eo) (hf : ∃ us, eo.data = .fields us) (rh : RelH X.gv B.H B.h) (rx : RelX X.gv B.H x k dd)
    (he : DE (X.suite ea ((ea, eo) :: pl)) B (.Name v p) (dVar i)) (hb : attributeBase (.Name v p) f X.env (eval (.Name v p) X.env) = eval (.Name v p) X.env := by rfl) :
    DE (X.suite ea ((ea, eo) :: pl)) B (.Attribute (.Name v p) f pos) (dXf i ea x ft f) := by
  by_cases hm : (x.cls, f) ∈ ft
  · obtain ⟨C, m, xc, no⟩ := T.ft _ hm
    have ek : k = .ref C := by
      have := rx.1
      rw [show X.gv.mg = X.mg from rfl, m] at this
      cases this
      rfl
    refine PE.imp (pe_xf xc no hz hf he hb) fun σV H QV ⟨σ, h, Q, r0, q, o⟩ => ⟨σ, h, fun d h' => d = .v (.ref ea) ∧ ∃ y, x.fs.lookup f = some y ∧ Q y h', r0, ?_, ?_⟩
    · obtain ⟨e1, _, y, e2, q⟩ := q
      show dVar i σ h _
      unfold dVar
      rw [e1]
      exact ⟨rfl, y, e2, q⟩
    · rintro d h1 w H1 ⟨rfl, y, ey, q⟩ g rw'
      cases rw'
      have rx1 := rx_keep rh rx (r0.go.trans g)
      rcases rx1.2 with e | ⟨d, vs, ed, eh, rp⟩
      · rw [e.1] at ey; cases ey
      · obtain ⟨w, hw, r⟩ := rpk_look rp ey
        exact ⟨rfl, ek, d, vs, w, ed, eh, hw, o y h1 w H1 q g r⟩
  · exact ⟨fun pins s σV H QV I ⟨σ, h, Q, r0, q, o⟩ => absurd q.2.1 hm⟩
/-- isinstance of the caught exception -/
def rIsX (K : PySem.W.Frag) (k : Value) (dd : Option Addr) (a : Addr) : List V → Hp → VK → Prop := fun xs H Q => (∀ d, dd = some d → ∃ vs, H d = some (.xd vs)) ∧ ∃ c b, xs = [.ref a, c] ∧ ((∃ u, ClsV c u ∧ PySem.W.kitOne K k u = some b) ∨ ∃ tp cs us, c = .ref tp ∧ H tp = some (.tup cs) ∧ Paired ClsV cs us ∧ PySem.W.kitAny K k us = some b) ∧ Q (.bl b) H
theorem call_isX {C : Addr} (O : OwnX X.K C) (ek : k = .ref C) (hz : Zc k dd eo) (hf : ∃ us, eo.data = .fields us) :
    CallR (X.suite ea ((ea, eo) :: pl)) (.builtin "isinstance") (rIsX X.K k dd ea) := by
  intro pins s σ H xs us Q I r h
  obtain ⟨hdd, c, b, rfl, hc, q⟩ := h
  obtain ⟨u1, u2, rfl, r1, r2⟩ := vals2 r
  cases (show u1 = Value.ref ea from r1)
  obtain ⟨hget, _⟩ := I.pin (ea, eo) (List.mem_append.mpr (.inl List.mem_cons_self))
  obtain ⟨vs, hv⟩ := hf
  have J : ∃ od, PySem.W.InstAt s.heap ea eo C od := by
    cases hd : dd with
    | none => exact ⟨none, hget, by rw [hz.1, ek], by unfold PySem.W.notCls; rw [hv] <;> rfl, by rw [hz.2, hd]; trivial⟩
    | some d =>
      obtain ⟨vs1, hvs⟩ := hdd d hd
      obtain ⟨mA, hns, _⟩ := (show ObjOk X.prog X.w H s.heap d (.xd vs1) from I.hok d _ hvs)
      obtain ⟨ob, ho, _⟩ := lookIn_ns hns
      exact ⟨some ob, hget, by rw [hz.1, ek], by unfold PySem.W.notCls; rw [hv] <;> rfl, by rw [hz.2, hd]; exact ho⟩
  obtain ⟨od, J⟩ := J
  have Z := PySem.W.kitx_exc (x := ea) (ox := eo) (od := od) O.cl O.xf.ga O.xf.gg O.xf.exC O.ha O.hn O.ht O.hm
  subst ek
  rcases hc with ⟨u, cv, e⟩ | ⟨tp, cs, us, rfl, hT, kc, e⟩
  · have e2 := cv.eq r2
    subst e2
    exact PySem.W.kia_one Z I.kIn J e (fun z => nomatch z) fun tk => ⟨.bl b, H, I.tok tk, rfl, q⟩
  · cases (show u2 = Value.ref tp from r2)
    obtain ⟨_, its, rv, ob, h1, h2, n, h3⟩ := (show ObjOk X.prog X.w H s.heap tp (.tup cs) from I.hok tp _ hT)
    have e3 := ClsV.all kc rv
    subst e3
    obtain ⟨oc, odt, dt, sl⟩ := ob
    simp only at h2 h3
    subst h2 h3
    exact PySem.W.kia_tup Z I.kIn J h1 e (fun z => nomatch z) fun tk => ⟨.bl b, H, I.tok tk, rfl, q⟩
theorem pe_nm {Y : Cx} {n : Str} {w : V} {u : Value} {q : Pos} (g : Gl Y n) (m : NmV Y.mg n u) (r : RelV w u) : PE Y (.Name n q) (tC w) := by
  obtain ⟨hdb, m | ⟨m, hv, hn⟩⟩ := m
  · exact pe_glob g m r hdb
  · exact pe_bltn g m hv r hn hdb
/-- classes that stand in a row -/
inductive NmsE (X : Cx) : List Expr → List Str → Prop
  | nil : NmsE X [] []
  | cons {n : Str} {q : Pos} {es : List Expr} {ns : List Str} : NmsE X es ns → (gl : Gl X n := by rfl) → NmsE X (.Name n q :: es) (n :: ns)
def tRow (ws : List V) : TA := fun _ H Q => Q ws H
theorem pa_row (T : ErT X.K X.mg tab own ft named) : ∀ {es : List Expr} {ns : List Str}, NmsE X es ns → (∀ n ∈ ns, n ∈ named) → (hs : ∀ e ∈ es, ∀ r : List Expr, starEach (e :: r) X.env = (false, eval e X.env) :: starEach r X.env) →
    ∃ ws us, PA (X.suite ea ((ea, eo) :: pl)) es (tRow ws) ∧ Paired ClsV ws us ∧ ws.length = ns.length ∧ Paired (fun c u => ∀ n b k, tab n c = some b → X.mg n = some k → PySem.W.kitOne X.K k u = some b) ns us
  | _, _, .nil, _, _ => ⟨[], [], PA.imp pa_nil fun σ H Q q => q, .nil, rfl, .nil⟩
  | _, _, .cons (n := n) (es := es) t gl, hm, hs => by
    obtain ⟨ws, us, pa, cv, hl, kt⟩ := pa_row T t (fun n hn => hm n (List.mem_cons_of_mem _ hn)) (fun e he => hs e (List.mem_cons_of_mem _ he))
    obtain ⟨w, u, m, c, r, kk⟩ := T.named n (hm n List.mem_cons_self)
    refine ⟨w :: ws, u :: us, PA.imp (pa_cons (pe_nm (Y := X.suite ea ((ea, eo) :: pl)) gl m r) pa (hs _ List.mem_cons_self es)) fun σ H Q q => q, .cons c cv, congrArg Nat.succ hl, .cons (fun n b k h1 h2 => (kk n b k h1 h2).1) kt⟩
theorem mapKit {K : PySem.W.Frag} {mg : Str → Option Value} {n : Str} {kv : Value} (m : mg n = some kv) : ∀ {ns : List Str} {us : List Value}, Paired (fun c u => ∀ n b k, tab n c = some b → mg n = some k → PySem.W.kitOne K k u = some b) ns us → Paired (fun c u => ∀ b, tab n c = some b → PySem.W.kitOne K kv u = some b) ns us
  | _, _, .nil => .nil
  | _, _, .cons p t => .cons (fun b e => p n b kv e m) (mapKit m t)
theorem dict_there {G : Gv} {H : Hp} (rx : RelX G H x k dd) : ∀ d, dd = some d → ∃ vs, H d = some (.xd vs) := fun d e => by
  rcases rx.2 with ⟨_, n⟩ | ⟨d', vs, ed, eh, _⟩
  · rw [n] at e; cases e
  · rw [ed] at e; cases e; exact ⟨vs, eh⟩
theorem de_isE {q q1 q2 cp : Pos} {cn : Str} (T : ErT X.K X.mg tab own ft named) (hz : Zc k dd eo) (hf : ∃ us, eo.data = .fields us) (rh : RelH X.gv B.H B.h) (rx : RelX X.gv B.H x k dd) (hmg : X.mg "isinstance" = none) (hcn : cn ∈ named)
    (he : PE (X.suite ea ((ea, eo) :: pl)) (.Name v q) (L2.tVar i)) (gi : Gl X "isinstance" := by rfl) (gc : Gl X cn := by rfl)
    (s1 : ∀ r : List Expr, starEach (.Name cn q1 :: r) X.env = (false, eval (.Name cn q1) X.env) :: starEach r X.env := by intro _; rfl) (s2 : ∀ r : List Expr, starEach (.Name v q :: r) X.env = (false, eval (.Name v q) X.env) :: starEach r X.env := by intro _; rfl)
    (hpl : (backTo cp (starEach [.Name cn q1] X.env)).any (·.1) = false := by rfl) :
    DE (X.suite ea ((ea, eo) :: pl)) B (.Call (.Name "isinstance" q2) [.Name v q, .Name cn q1] [] cp) (dXi i ea x own tab cn) := by
  by_cases hm : x.cls ∈ own
  · obtain ⟨C, m, O⟩ := T.own _ hm
    have ek : k = .ref C := by
      have := rx.1
      rw [show X.gv.mg = X.mg from rfl, m] at this
      cases this
      rfl
    obtain ⟨w, u, mu, cv, rw', kk⟩ := T.named cn hcn
    have main := pe_callB (p := q2) (pos := cp) (call_isX (pl := pl) O ek hz hf) gi hmg PyProof.Rows.boot_isinstance (pa_cons he (pa_cons (pe_nm (Y := X.suite ea ((ea, eo) :: pl)) gc mu rw') pa_nil (s1 _)) (s2 _)) (by decide) (by decide) (s2 _) hpl
    refine PE.imp main fun σV H QV ⟨σ, h, Q, r0, qq, o⟩ => ?_
    obtain ⟨e1, _, b, tb, q⟩ := qq
    have e1' : σ[i]? = some (some (D.v (.ref ea))) := gS_eq _ _ _ e1
    obtain ⟨v1, ev, rp⟩ := r0.s.2 i _ e1'
    cases rp
    have rx1 := rx_keep rh rx r0.go
    refine ⟨.ref ea, ev, dict_there rx1, w, b, rfl, .inl ⟨u, cv, by rw [ek]; exact (kk _ _ _ tb m).1⟩, o (.v (.bl b)) h (.bl b) H q (Go.refl r0.h) (.v _)⟩
  · exact ⟨fun pins s σV H QV I ⟨σ, h, Q, r0, q, o⟩ => absurd q.2.1 hm⟩
theorem de_isEs {q q2 cp tp : Pos} {cs : List Str} {es : List Expr} {x1 : Nat} (T : ErT X.K X.mg tab own ft named) (hz : Zc k dd eo) (hf : ∃ us, eo.data = .fields us) (rh : RelH X.gv B.H B.h) (rx : RelX X.gv B.H x k dd) (hmg : X.mg "isinstance" = none) (hcs : ∀ n ∈ cs, n ∈ named)
    (he : PE (X.suite ea ((ea, eo) :: pl)) (.Name v q) (L2.tVar i)) (row : NmsE X es cs) (hs : ∀ e ∈ es, ∀ r : List Expr, starEach (e :: r) X.env = (false, eval e X.env) :: starEach r X.env) (gi : Gl X "isinstance" := by rfl)
    (s1 : ∀ r : List Expr, starEach (.Tuple es x1 tp :: r) X.env = (false, eval (.Tuple es x1 tp) X.env) :: starEach r X.env := by intro _; rfl) (s2 : ∀ r : List Expr, starEach (.Name v q :: r) X.env = (false, eval (.Name v q) X.env) :: starEach r X.env := by intro _; rfl)
    (hpl : (backTo cp (starEach [.Tuple es x1 tp] X.env)).any (·.1) = false := by rfl) (hlen : cs.length ≤ 1000 := by decide) :
    DE (X.suite ea ((ea, eo) :: pl)) B (.Call (.Name "isinstance" q2) [.Name v q, .Tuple es x1 tp] [] cp) (dXis i ea x own tab cs) := by
  by_cases hm : x.cls ∈ own
  · obtain ⟨C, m, O⟩ := T.own _ hm
    have ek : k = .ref C := by
      have := rx.1
      rw [show X.gv.mg = X.mg from rfl, m] at this
      cases this
      rfl
    obtain ⟨ws, us, pa, cv, wl, kt⟩ := pa_row (ea := ea) (eo := eo) (pl := pl) T row hcs hs
    have main := pe_callB (p := q2) (pos := cp) (call_isX (pl := pl) O ek hz hf) gi hmg PyProof.Rows.boot_isinstance (pa_cons he (pa_cons (pe_tup pa) pa_nil (s1 _)) (s2 _)) (by decide) (by decide) (s2 _) hpl
    refine PE.imp main fun σV H QV ⟨σ, h, Q, r0, qq, o⟩ => ?_
    obtain ⟨e1, _, b, tb, q⟩ := qq
    have e1' : σ[i]? = some (some (D.v (.ref ea))) := gS_eq _ _ _ e1
    obtain ⟨v1, ev, rp⟩ := r0.s.2 i _ e1'
    cases rp
    have rx1 := rx_keep rh rx r0.go
    have lw : ws.length ≤ sizeLine := by rw [wl]; exact Nat.le_trans hlen (by decide)
    refine ⟨.ref ea, ev, lw, fun p hp => ?_⟩
    have g2 : Go X.gv H h (upd H p (.tup ws)) h := Go.hid r0.h hp
    refine ⟨dict_there (rx_keep rh rx (r0.go.trans g2)), .ref p, b, rfl, .inr ⟨p, ws, us, rfl, upd_same, cv, by rw [ek]; exact kitAny_of (mapKit m kt) tb⟩, o (.v (.bl b)) h (.bl b) _ q g2 (.v _)⟩
  · exact ⟨fun pins s σV H QV I ⟨σ, h, Q, r0, q, o⟩ => absurd q.2.1 hm⟩
end
end DL
/-! DLv: classes of errors, as the text writes them -/
namespace DL
open PySem PySem.Spec PyProof.Rows L2
open PySem.HandSPX (veTail)
section
variable {P : Program} {K : PySem.W.Frag} {mg : Str → Option Value} {C fI : Addr} {fd : FuncData} {x s0 f1 f2 : Str}
theorem pe_par {w : World} {base : Heap} {ps : List Str} {A : Around} {outer : List Env} {s : Shared} {H : Hp} {E : XK} {i : Nat} {n : Str} {q : Pos} (S : SupF P K mg C fI fd ps) (hi : ps[i]? = some n) (hd : (n == ("__debug__" : Str)) = false) (hcd : (n == ("__classdict__" : Str)) = false) :
    PE (cxS P w K mg base ps fd fI A outer s H E) (.Name n q) (L2.tVar i) := pe_var hi (.inl (S.par n (List.mem_of_getElem? hi))) hd hcd
/-- class x: def __init__(s0, f1): super().__init__(f1); s0.f1 = f1 -/
theorem exk1 {pl : Nat → Sem Bool} {p0 p1 p2 p3 p4 q1 q2 q3 q4 q5 : Pos} {w : World} {base : Heap} (S : SupF P K mg C fI fd [s0, f1]) (hbody : fd.body = .stmts [.Expr (.Call (.Attribute (.Call (.Name "super" p0) [] [] p1) "__init__" p2) [.Name f1 q1] [] p3) p4, .Assign [.Attribute (.Name s0 q2) f1 q3] (.Name f1 q4) q5])
    (mgx : mg x = some (.ref C)) (ii : PySem.W.findIn K (.ref C) "__init__" = some (some (.ref fI))) (ti : PySem.W.typeIn K (.ref fI) = some (.type "function")) (hb : Binds K fd [s0, f1] []) (no1 : PySem.W.findIn K (.ref C) f1 = some none)
    (d0 : (s0 == ("__debug__" : Str)) = false) (d0' : (s0 == ("__classdict__" : Str)) = false) (d1 : (f1 == ("__debug__" : Str)) = false) (d1' : (f1 == ("__classdict__" : Str)) = false)
    (hev : ∀ L, eval (.Call (.Attribute (.Call (.Name "super" p0) [] [] p1) "__init__" p2) [.Name f1 q1] [] p3) (callEnv fd L fI) = (do
      let ov ← attributeBase (.Call (.Name "super" p0) [] [] p1) "__init__" (callEnv fd L fI) (eval (.Call (.Name "super" p0) [] [] p1) (callEnv fd L fI))
      standAt p2.atName
      let (f', first) ← holding [ov] (getMethod ov "__init__" (pl L))
      callWith p3 f' first (backTo p3 (starEach [.Name f1 q1] (callEnv fd L fI))) [])) : ExK P w K mg base x [f1] C := by
  refine ⟨S.exc, mgx, fun f hf => by rw [List.mem_singleton.mp hf]; exact no1, by simp, fI, fd, [s0, f1], trInit1 K f1, ii, ti, hb, rfl, fun k => ?_, .inl ⟨f1, rfl, rfl⟩⟩
  refine fn_sup (n := 1) (e := .Name f1 q1) (es := []) (stms := [.Assign [.Attribute (.Name s0 q2) f1 q3] (.Name f1 q4) q5]) (rest := []) (t := tCons (L2.tVar 1) tNil) (pl := pl) S hbody (fun A outer s H E => pa_cons (pe_par S rfl d1 d1') pa_nil) (fun a ws H hl => ?_) (fun A outer s H E => pss_cons (ps_ost (pe_par S rfl d0 d0') (pe_par S rfl d1 d1')) pss_nil) (hev := hev)
  match ws, hl with
  | [y], _ => exact ⟨y, rfl, by show 1 ≤ 1000; decide, rfl⟩
/-- class x: def __init__(s0, f1, f2): super().__init__(f1, f2); s0.f1 = f1; s0.f2 = f2 -/
theorem exk2 {pl : Nat → Sem Bool} {p0 p1 p2 p3 p4 q1 q2 q3 q4 q5 r1 r2 r3 r4 r5 : Pos} {w : World} {base : Heap} (S : SupF P K mg C fI fd [s0, f1, f2]) (hbody : fd.body = .stmts [.Expr (.Call (.Attribute (.Call (.Name "super" p0) [] [] p1) "__init__" p2) [.Name f1 q1, .Name f2 r1] [] p3) p4, .Assign [.Attribute (.Name s0 q2) f1 q3] (.Name f1 q4) q5, .Assign [.Attribute (.Name s0 r2) f2 r3] (.Name f2 r4) r5])
    (mgx : mg x = some (.ref C)) (ii : PySem.W.findIn K (.ref C) "__init__" = some (some (.ref fI))) (ti : PySem.W.typeIn K (.ref fI) = some (.type "function")) (hb : Binds K fd [s0, f1, f2] []) (no1 : PySem.W.findIn K (.ref C) f1 = some none) (no2 : PySem.W.findIn K (.ref C) f2 = some none) (nd : f1 ≠ f2)
    (d0 : (s0 == ("__debug__" : Str)) = false) (d0' : (s0 == ("__classdict__" : Str)) = false) (d1 : (f1 == ("__debug__" : Str)) = false) (d1' : (f1 == ("__classdict__" : Str)) = false) (d2 : (f2 == ("__debug__" : Str)) = false) (d2' : (f2 == ("__classdict__" : Str)) = false)
    (hev : ∀ L, eval (.Call (.Attribute (.Call (.Name "super" p0) [] [] p1) "__init__" p2) [.Name f1 q1, .Name f2 r1] [] p3) (callEnv fd L fI) = (do
      let ov ← attributeBase (.Call (.Name "super" p0) [] [] p1) "__init__" (callEnv fd L fI) (eval (.Call (.Name "super" p0) [] [] p1) (callEnv fd L fI))
      standAt p2.atName
      let (f', first) ← holding [ov] (getMethod ov "__init__" (pl L))
      callWith p3 f' first (backTo p3 (starEach [.Name f1 q1, .Name f2 r1] (callEnv fd L fI))) [])) : ExK P w K mg base x [f1, f2] C := by
  refine ⟨S.exc, mgx, fun f hf => ?_, by simp [nd], fI, fd, [s0, f1, f2], trInit2 K f1 f2, ii, ti, hb, rfl, fun k => ?_, .inr ⟨f1, f2, rfl, rfl⟩⟩
  · rcases List.mem_cons.mp hf with rfl | hf
    · exact no1
    · rw [List.mem_singleton.mp hf]; exact no2
  refine fn_sup (n := 2) (e := .Name f1 q1) (es := [.Name f2 r1]) (stms := [.Assign [.Attribute (.Name s0 q2) f1 q3] (.Name f1 q4) q5, .Assign [.Attribute (.Name s0 r2) f2 r3] (.Name f2 r4) r5]) (rest := []) (t := tCons (L2.tVar 1) (tCons (L2.tVar 2) tNil)) (pl := pl) S hbody (fun A outer s H E => pa_cons (pe_par S rfl d1 d1') (pa_cons (pe_par S rfl d2 d2') pa_nil)) (fun a ws H hl => ?_) (fun A outer s H E => pss_cons (ps_ost (pe_par S rfl d0 d0') (pe_par S rfl d1 d1')) (pss_cons (ps_ost (pe_par S rfl d0 d0') (pe_par S rfl d2 d2')) pss_nil)) (hev := hev)
  match ws, hl with
  | [y, z], _ => exact ⟨y, rfl, z, rfl, by show 2 ≤ 1000; decide, rfl⟩
end
def supB (ps : List Str) (sc : Scope) : Bool :=
  (match sc.kind with | .function => true | _ => false) && !sc.isCoroutine && !sc.isGenerator && decide ps.Nodup && (ps.all fun y => decide (sc.names.lookup y = some .local)) &&
  (sc.names.all fun y => (match y.2 with | .cell => false | .free => decide (y.1 = "__class__") | _ => true)) && decide (sc.names.lookup ("super" : Str) = some .globalImplicit) && decide (sc.names.lookup ("__class__" : Str) = some .free)
/-- .. every class of the package stands right below the first -/
def ExD (P : Program) (K : PySem.W.Frag) (mg : Str → Option Value) (x : Str) (fs : List Str) : Prop := ∃ C, ∀ w base, ExK P w K mg base x fs C
section
variable {P : Program} {K : PySem.W.Frag} {h : Heap} {mg : Str → Option Value} {x nm q file f1 f2 s0 : Str} {C S N fI cc cda : Addr} {bs : List Value} {sn : List Str} {sub : List Value} {ab : Bool} {col : Option Bool} {dd d1 d2 d3 od : Option Addr} {k0 k1 k2 k3 k5 : Option Value}
  {c1 c2 c3 oc : Value} {cdS : ClassData} {sl1 sl2 sl3 osl : Array (Option Value)} {fd : FuncData} {vs : Array Value} {tf : Tok} {ps : List Str} {p0 p1 p2 p3 p4 q1 q2 q3 q4 q5 r1 r2 r3 r4 r5 : Pos} {pl : Nat → Sem Bool}
theorem supf_mk (X : K.In h) (G : h.Ns mainGlobals mg) (xa : PySem.W.nsIn K mainGlobals x = some (some (.ref C)))
    (xl : K.lookup C = some (excClassObj nm q C N bs (.ref S :: veTail) true sn sub ab col dd k0 k1 k2 k3 k5 "ValueError.__new__")) (xo : K.lookup S = some ⟨c1, d1, .cls cdS, sl1⟩) (xn : PySem.W.nsIn K cdS.ns "__init__" = some none)
    (sa : PySem.W.findIn K (.ref C) "__setattr__" = some (some (.builtin "object.__setattr__"))) (xb : PySem.W.subIn K (.ref C) (.type "BaseException") = some true) (xt : PySem.W.typeIn K (.ref C) = some (.type "type")) (xk : PySem.W.keepIn K (.ref C) = true)
    (xv : PySem.W.subIn K (.ref C) (.type "ValueError") = some true) (xm : PySem.W.mroIn K C (.ref C) = some true) (ii : PySem.W.findIn K (.ref C) "__init__" = some (some (.ref fI))) (ti : PySem.W.typeIn K (.ref fI) = some (.type "function"))
    (lf : K.lookup fI = some ⟨oc, od, .func fd, osl⟩) (cd : PySem.W.codeIn K fd.code fd.qualname = true) (sb : supB ps fd.scope = true) (gl : fd.globals = mainGlobals ∧ fd.builtins = builtinsNs) (cl : fd.closure = [(("__class__" : Str), cc)]) (kc : K.lookup cc = some ⟨c2, d2, .cell (some (.ref C)), sl2⟩)
    (ce : fd.code = .ref cda) (ke : K.lookup cda = some ⟨c3, d3, .fields vs, sl3⟩) (kv : vs[2]? = some (.str file tf)) (pf : ((P.main.file : Str) == file) = true) (pt : (P.main.scope.names.lookup ("super" : Str)).isSome = false)
    (ar : ∃ ar : Arg, (fd.params.posonlyargs ++ fd.params.args).head? = some ar ∧ ps.head? = some ar.arg) (ms : PySem.W.nsIn K mainGlobals "super" = some none) (oq : PySem.W.nsIn K cStatics "thirdparty.any" = some none) : SupF P K mg C fI fd ps := by
  unfold supB at sb
  simp only [Bool.and_eq_true, List.all_eq_true, decide_eq_true_eq, Bool.not_eq_true'] at sb
  obtain ⟨⟨⟨⟨⟨⟨⟨b1, b2⟩, b3⟩, b4⟩, b5⟩, b6⟩, b7⟩, b8⟩ := sb
  have hcd : PySem.W.clsIn K C = some { name := nm, bases := bs, mro := .ref C :: .ref S :: veTail, ns := N, qualname := q, hasDict := true, slotNames := sn, subclasses := sub, abstract := ab, collection := col, hasDel := false } := by unfold PySem.W.clsIn; rw [xl]
  refine ⟨⟨_, _, _, lf⟩, ?_, b2, b3, gl.1, gl.2, ⟨cc, c2, d2, sl2, cl, kc⟩, b4, b5, fun y hy => ?_, fun y hy e => ?_, b7, b8, PySem.W.mg_none_of X G ms, cd, ⟨cda, c3, d3, sl3, vs, file, tf, ce, ke, kv, pf⟩, pt, ar, oq, ⟨⟨nm, q, N, bs, .ref S :: veTail, sn, sub, ab, col, dd, k0, k1, k2, k3, k5, xl, by show PySem.HandSPX.refsVE veTail = true; decide +kernel⟩, sa, xb, xt, xk⟩, ?_, xv, xm⟩
  · split at b1
    · assumption
    · cases b1
  · have := b6 _ (PySem.mem_of_lookup hy)
    simpa using this
  · have := b6 _ hy
    rw [e] at this
    cases this
  · unfold PySem.W.ks_superIn
    rw [hcd, Option.bind_some]
    show PySem.W.alongIn K "__init__" (((Value.ref C :: .ref S :: veTail).dropWhile (· != .ref C)).drop 1) = _
    have e1 : ((Value.ref C :: .ref S :: veTail).dropWhile (· != .ref C)).drop 1 = .ref S :: veTail := by simp [List.dropWhile_cons]
    rw [e1]
    unfold PySem.W.alongIn
    have e2 : PySem.W.ownIn K "__init__" (.ref S) = some none := by
      show (match K.lookup S with | some ⟨_, _, .cls cd, _⟩ => PySem.W.nsIn K cd.ns "__init__" | _ => none) = some none
      rw [xo]
      exact xn
    rw [e2]
    show PySem.W.alongIn K "__init__" veTail = _
    kernel_rfl
theorem exd1_mk (X : K.In h) (G : h.Ns mainGlobals mg) (xa : PySem.W.nsIn K mainGlobals x = some (some (.ref C)))
    (xl : K.lookup C = some (excClassObj nm q C N bs (.ref S :: veTail) true sn sub ab col dd k0 k1 k2 k3 k5 "ValueError.__new__")) (xo : K.lookup S = some ⟨c1, d1, .cls cdS, sl1⟩) (xn : PySem.W.nsIn K cdS.ns "__init__" = some none)
    (sa : PySem.W.findIn K (.ref C) "__setattr__" = some (some (.builtin "object.__setattr__"))) (xb : PySem.W.subIn K (.ref C) (.type "BaseException") = some true) (xt : PySem.W.typeIn K (.ref C) = some (.type "type")) (xk : PySem.W.keepIn K (.ref C) = true)
    (xv : PySem.W.subIn K (.ref C) (.type "ValueError") = some true) (xm : PySem.W.mroIn K C (.ref C) = some true) (ii : PySem.W.findIn K (.ref C) "__init__" = some (some (.ref fI))) (ti : PySem.W.typeIn K (.ref fI) = some (.type "function"))
    (lf : K.lookup fI = some ⟨oc, od, .func fd, osl⟩) (cd : PySem.W.codeIn K fd.code fd.qualname = true) (sb : supB [s0, f1] fd.scope = true) (gl : fd.globals = mainGlobals ∧ fd.builtins = builtinsNs) (cl : fd.closure = [(("__class__" : Str), cc)]) (kc : K.lookup cc = some ⟨c2, d2, .cell (some (.ref C)), sl2⟩)
    (ce : fd.code = .ref cda) (ke : K.lookup cda = some ⟨c3, d3, .fields vs, sl3⟩) (kv : vs[2]? = some (.str file tf)) (pf : ((P.main.file : Str) == file) = true) (pt : (P.main.scope.names.lookup ("super" : Str)).isSome = false)
    (ar : ∃ ar : Arg, (fd.params.posonlyargs ++ fd.params.args).head? = some ar ∧ [s0, f1].head? = some ar.arg) (ms : PySem.W.nsIn K mainGlobals "super" = some none) (oq : PySem.W.nsIn K cStatics "thirdparty.any" = some none)
    (no1 : PySem.W.findIn K (.ref C) f1 = some none) (hbody : fd.body = .stmts [.Expr (.Call (.Attribute (.Call (.Name "super" p0) [] [] p1) "__init__" p2) [.Name f1 q1] [] p3) p4, .Assign [.Attribute (.Name s0 q2) f1 q3] (.Name f1 q4) q5])
    (hb : ∀ us : List Value, us.length = 2 → bindArgs fd ⟨us, []⟩ = pure ([s0, f1].zip us)) (db : (s0 == ("__debug__" : Str)) = false ∧ (s0 == ("__classdict__" : Str)) = false ∧ (f1 == ("__debug__" : Str)) = false ∧ (f1 == ("__classdict__" : Str)) = false)
    (hev : ∀ L, eval (.Call (.Attribute (.Call (.Name "super" p0) [] [] p1) "__init__" p2) [.Name f1 q1] [] p3) (callEnv fd L fI) = (do
      let ov ← attributeBase (.Call (.Name "super" p0) [] [] p1) "__init__" (callEnv fd L fI) (eval (.Call (.Name "super" p0) [] [] p1) (callEnv fd L fI))
      standAt p2.atName
      let (f', first) ← holding [ov] (getMethod ov "__init__" (pl L))
      callWith p3 f' first (backTo p3 (starEach [.Name f1 q1] (callEnv fd L fI))) [])) : ExD P K mg x [f1] := by
  obtain ⟨d0, d0', d1, d1'⟩ := db
  have SF := supf_mk X G xa xl xo xn sa xb xt xk xv xm ii ti lf cd sb gl cl kc ce ke kv pf pt ar ms oq
  exact ⟨C, fun w base => exk1 SF hbody (PySem.W.mg_of X G xa) ii ti (.all hb) no1 d0 d0' d1 d1' hev⟩
theorem exd2_mk (X : K.In h) (G : h.Ns mainGlobals mg) (xa : PySem.W.nsIn K mainGlobals x = some (some (.ref C)))
    (xl : K.lookup C = some (excClassObj nm q C N bs (.ref S :: veTail) true sn sub ab col dd k0 k1 k2 k3 k5 "ValueError.__new__")) (xo : K.lookup S = some ⟨c1, d1, .cls cdS, sl1⟩) (xn : PySem.W.nsIn K cdS.ns "__init__" = some none)
    (sa : PySem.W.findIn K (.ref C) "__setattr__" = some (some (.builtin "object.__setattr__"))) (xb : PySem.W.subIn K (.ref C) (.type "BaseException") = some true) (xt : PySem.W.typeIn K (.ref C) = some (.type "type")) (xk : PySem.W.keepIn K (.ref C) = true)
    (xv : PySem.W.subIn K (.ref C) (.type "ValueError") = some true) (xm : PySem.W.mroIn K C (.ref C) = some true) (ii : PySem.W.findIn K (.ref C) "__init__" = some (some (.ref fI))) (ti : PySem.W.typeIn K (.ref fI) = some (.type "function"))
    (lf : K.lookup fI = some ⟨oc, od, .func fd, osl⟩) (cd : PySem.W.codeIn K fd.code fd.qualname = true) (sb : supB [s0, f1, f2] fd.scope = true) (gl : fd.globals = mainGlobals ∧ fd.builtins = builtinsNs) (cl : fd.closure = [(("__class__" : Str), cc)]) (kc : K.lookup cc = some ⟨c2, d2, .cell (some (.ref C)), sl2⟩)
    (ce : fd.code = .ref cda) (ke : K.lookup cda = some ⟨c3, d3, .fields vs, sl3⟩) (kv : vs[2]? = some (.str file tf)) (pf : ((P.main.file : Str) == file) = true) (pt : (P.main.scope.names.lookup ("super" : Str)).isSome = false)
    (ar : ∃ ar : Arg, (fd.params.posonlyargs ++ fd.params.args).head? = some ar ∧ [s0, f1, f2].head? = some ar.arg) (ms : PySem.W.nsIn K mainGlobals "super" = some none) (oq : PySem.W.nsIn K cStatics "thirdparty.any" = some none)
    (no1 : PySem.W.findIn K (.ref C) f1 = some none) (no2 : PySem.W.findIn K (.ref C) f2 = some none) (nd : f1 ≠ f2) (hbody : fd.body = .stmts [.Expr (.Call (.Attribute (.Call (.Name "super" p0) [] [] p1) "__init__" p2) [.Name f1 q1, .Name f2 r1] [] p3) p4, .Assign [.Attribute (.Name s0 q2) f1 q3] (.Name f1 q4) q5, .Assign [.Attribute (.Name s0 r2) f2 r3] (.Name f2 r4) r5])
    (hb : ∀ us : List Value, us.length = 3 → bindArgs fd ⟨us, []⟩ = pure ([s0, f1, f2].zip us)) (db : (s0 == ("__debug__" : Str)) = false ∧ (s0 == ("__classdict__" : Str)) = false ∧ (f1 == ("__debug__" : Str)) = false ∧ (f1 == ("__classdict__" : Str)) = false ∧ (f2 == ("__debug__" : Str)) = false ∧ (f2 == ("__classdict__" : Str)) = false)
    (hev : ∀ L, eval (.Call (.Attribute (.Call (.Name "super" p0) [] [] p1) "__init__" p2) [.Name f1 q1, .Name f2 r1] [] p3) (callEnv fd L fI) = (do
      let ov ← attributeBase (.Call (.Name "super" p0) [] [] p1) "__init__" (callEnv fd L fI) (eval (.Call (.Name "super" p0) [] [] p1) (callEnv fd L fI))
      standAt p2.atName
      let (f', first) ← holding [ov] (getMethod ov "__init__" (pl L))
      callWith p3 f' first (backTo p3 (starEach [.Name f1 q1, .Name f2 r1] (callEnv fd L fI))) [])) : ExD P K mg x [f1, f2] := by
  obtain ⟨d0, d0', d1, d1', d2, d2'⟩ := db
  have SF := supf_mk X G xa xl xo xn sa xb xt xk xv xm ii ti lf cd sb gl cl kc ce ke kv pf pt ar ms oq
  exact ⟨C, fun w base => exk2 SF hbody (PySem.W.mg_of X G xa) ii ti (.all hb) no1 no2 nd d0 d0' d1 d1' d2 d2' hev⟩
end
/-! ### the table of a text's errors -/
/-- by the class that is asked for: of each own class whether it is one -/
def tabOf (L : List (Str × List (Str × Bool))) (n c : Str) : Option Bool := (L.lookup c).bind (·.lookup n)
inductive Col (K : PySem.W.Frag) (mg : Str → Option Value) (u : Value) : List (Str × Bool) → Prop
  | nil : Col K mg u []
  | cons {n : Str} {b : Bool} {r : List (Str × Bool)} {C : Addr} : mg n = some (.ref C) → PySem.W.subIn K (.ref C) u = some b → Col K mg u r → Col K mg u ((n, b) :: r)
def NmK (K : PySem.W.Frag) (mg : Str → Option Value) (c : Str) (u : Value) : Prop := NmV mg c u ∧ ∃ w, ClsV w u ∧ RelV w u ∧ ∀ C b, PySem.W.subIn K (.ref C) u = some b → PySem.W.kitOne K (.ref C) u = some b ∧ PySem.W.exmOne K (.ref C) u = some b
inductive Tab (K : PySem.W.Frag) (mg : Str → Option Value) : List (Str × List (Str × Bool)) → Prop
  | nil : Tab K mg []
  | cons {c : Str} {u : Value} {col : List (Str × Bool)} {r : List (Str × List (Str × Bool))} : NmK K mg c u → Col K mg u col → Tab K mg r → Tab K mg ((c, col) :: r)
inductive Owns (K : PySem.W.Frag) (mg : Str → Option Value) : List Str → Prop
  | nil : Owns K mg []
  | cons {n : Str} {C : Addr} {r : List Str} : mg n = some (.ref C) → OwnX K C → Owns K mg r → Owns K mg (n :: r)
inductive Fts (K : PySem.W.Frag) (mg : Str → Option Value) : List (Str × Str) → Prop
  | nil : Fts K mg []
  | cons {n f : Str} {C : Addr} {r : List (Str × Str)} : mg n = some (.ref C) → XfC K C → PySem.W.findIn K (.ref C) f = some none → Fts K mg r → Fts K mg ((n, f) :: r)
section
variable {K : PySem.W.Frag} {mg : Str → Option Value} {h : Heap}
theorem col_look {u : Value} {n : Str} {b : Bool} {k : Value} : ∀ {col : List (Str × Bool)}, Col K mg u col → col.lookup n = some b → mg n = some k → ∃ C, k = .ref C ∧ PySem.W.subIn K (.ref C) u = some b
  | _, .nil, e, _ => by cases e
  | _, .cons (n := m) (b := b') (r := r) hm hs t, e, ek => by
    by_cases c : n = m
    · subst c
      simp [List.lookup] at e
      subst e
      rw [hm] at ek
      cases ek
      exact ⟨_, rfl, hs⟩
    · have c' : (n == m) = false := by simpa using c
      simp only [List.lookup, c'] at e
      exact col_look t e ek
theorem tab_named : ∀ {L : List (Str × List (Str × Bool))}, Tab K mg L → ∀ c ∈ L.map (·.1), ∃ w u, NmV mg c u ∧ ClsV w u ∧ RelV w u ∧ ∀ n b k, tabOf L n c = some b → mg n = some k → PySem.W.kitOne K k u = some b ∧ PySem.W.exmOne K k u = some b
  | _, .nil, c, hc => by cases hc
  | _, .cons (c := d) (u := u) (col := col) (r := r) nk cl t, c, hc => by
    by_cases e : c = d
    · subst e
      obtain ⟨nv, w, cv, rv, kk⟩ := nk
      refine ⟨w, u, nv, cv, rv, fun n b k hb hk => ?_⟩
      have hb' : col.lookup n = some b := by
        unfold tabOf at hb
        simpa [List.lookup] using hb
      obtain ⟨C, rfl, hs⟩ := col_look cl hb' hk
      exact kk C b hs
    · have hr : c ∈ r.map (·.1) := by
        rcases List.mem_cons.mp hc with z | z
        · exact absurd z e
        · exact z
      obtain ⟨w, u', a1, a2, a3, a4⟩ := tab_named t c hr
      refine ⟨w, u', a1, a2, a3, fun n b k hb hk => a4 n b k ?_ hk⟩
      have c' : (c == d) = false := by simpa using e
      unfold tabOf at hb ⊢
      simpa only [List.lookup, c'] using hb
theorem owns_get : ∀ {own : List Str}, Owns K mg own → ∀ n ∈ own, ∃ C, mg n = some (.ref C) ∧ OwnX K C
  | _, .nil, n, hn => by cases hn
  | _, .cons hm o t, n, hn => by
    rcases List.mem_cons.mp hn with rfl | hn
    · exact ⟨_, hm, o⟩
    · exact owns_get t n hn
theorem fts_get : ∀ {ft : List (Str × Str)}, Fts K mg ft → ∀ p ∈ ft, ∃ C, mg p.1 = some (.ref C) ∧ XfC K C ∧ PySem.W.findIn K (.ref C) p.2 = some none
  | _, .nil, n, hn => by cases hn
  | _, .cons hm o e t, n, hn => by
    rcases List.mem_cons.mp hn with rfl | hn
    · exact ⟨_, hm, o, e⟩
    · exact fts_get t n hn
theorem ert_mk {L : List (Str × List (Str × Bool))} {own : List Str} {ft : List (Str × Str)} (o : Owns K mg own) (f : Fts K mg ft) (t : Tab K mg L) : ErT K mg (tabOf L) own ft (L.map (·.1)) := ⟨owns_get o, fts_get f, tab_named t⟩
theorem col_mk {u : Value} {n : Str} {b : Bool} {r : List (Str × Bool)} {C : Addr} (X : K.In h) (G : h.Ns mainGlobals mg) (a : PySem.W.nsIn K mainGlobals n = some (some (.ref C))) (s : PySem.W.subIn K (.ref C) u = some b) (t : Col K mg u r) : Col K mg u ((n, b) :: r) := .cons (PySem.W.mg_of X G a) s t
theorem owns_mk {n : Str} {r : List Str} {C : Addr} (X : K.In h) (G : h.Ns mainGlobals mg) (a : PySem.W.nsIn K mainGlobals n = some (some (.ref C))) (ga : PySem.W.findIn K (.ref C) "__getattribute__" = some (some (.builtin "BaseException.__getattribute__"))) (gg : PySem.W.findIn K (.ref C) "__getattr__" = some none)
    (ex : PySem.W.subIn K (.ref C) (.type "BaseException") = some true) (hd : PySem.W.hasDictIn K C = true) (ha : PySem.W.findIn K (.ref C) "__class__" = some (some (.builtin "object.__class__"))) (hn : PySem.W.specialIn K (.builtin "object.__class__") "__get__" = some (some (.builtin "getset_descriptor.__get__")))
    (ht : PySem.W.takesIn K (.builtin "object.__class__") = some true) (hm : PySem.W.mroIn K C (.type "object") = some true) (cl : PySem.W.isClsIn K C = true) (t : Owns K mg r) : Owns K mg (n :: r) := .cons (PySem.W.mg_of X G a) ⟨⟨ga, gg, ex, hd⟩, ha, hn, ht, hm, cl⟩ t
theorem fts_mk {n f : Str} {r : List (Str × Str)} {C : Addr} (X : K.In h) (G : h.Ns mainGlobals mg) (a : PySem.W.nsIn K mainGlobals n = some (some (.ref C))) (ga : PySem.W.findIn K (.ref C) "__getattribute__" = some (some (.builtin "BaseException.__getattribute__"))) (gg : PySem.W.findIn K (.ref C) "__getattr__" = some none)
    (ex : PySem.W.subIn K (.ref C) (.type "BaseException") = some true) (hd : PySem.W.hasDictIn K C = true) (no : PySem.W.findIn K (.ref C) f = some none) (t : Fts K mg r) : Fts K mg ((n, f) :: r) := .cons (PySem.W.mg_of X G a) ⟨ga, gg, ex, hd⟩ no t
theorem kit_ref {n c : Addr} {b : Bool} (k : PySem.W.isClsIn K c = true) (t : PySem.W.typeIn K (.ref c) = some (.type "type")) (self : PySem.W.subIn K (.ref c) (.ref c) = some true) (bx : PySem.W.subIn K (.ref c) (.type "BaseException") = some true) (s : PySem.W.subIn K (.ref n) (.ref c) = some b) :
    PySem.W.kitOne K (.ref n) (.ref c) = some b ∧ PySem.W.exmOne K (.ref n) (.ref c) = some b := by
  have kc : PySem.W.kitCls K (.ref n) (.ref c) = some b := by
    unfold PySem.W.kitCls
    have k' : (PySem.W.clsIn K c).isSome = true := k
    simp only [k', t, beq_self_eq_true, Bool.and_self, if_true, s]
  constructor
  · unfold PySem.W.kitOne
    split
    · rename_i e
      have e' : n = c := by simpa using e
      subst e'
      rw [self] at s
      cases s
      rfl
    · exact kc
  · unfold PySem.W.exmOne
    simp only [bx, beq_self_eq_true, if_true, kc]
theorem kit_ty {n : Addr} {T : String} {b : Bool} (k : PySem.W.kitMeta T = true) (bx : PySem.W.subIn K (.type T) (.type "BaseException") = some true) (s : PySem.W.subIn K (.ref n) (.type T) = some b) :
    PySem.W.kitOne K (.ref n) (.type T) = some b ∧ PySem.W.exmOne K (.ref n) (.type T) = some b := by
  have kc : PySem.W.kitCls K (.ref n) (.type T) = some b := by
    unfold PySem.W.kitCls
    simp only [k, if_true, s]
  constructor
  · unfold PySem.W.kitOne
    split
    · rename_i e
      simp at e
    · exact kc
  · unfold PySem.W.exmOne
    simp only [bx, beq_self_eq_true, if_true, kc]
theorem tabr_mk {c : Str} {C : Addr} {col : List (Str × Bool)} {r : List (Str × List (Str × Bool))} (X : K.In h) (G : h.Ns mainGlobals mg) (a : PySem.W.nsIn K mainGlobals c = some (some (.ref C))) (k : PySem.W.isClsIn K C = true) (t : PySem.W.typeIn K (.ref C) = some (.type "type"))
    (self : PySem.W.subIn K (.ref C) (.ref C) = some true) (bx : PySem.W.subIn K (.ref C) (.type "BaseException") = some true) (cl : Col K mg (.ref C) col) (tl : Tab K mg r) (db : (c == ("__debug__" : Str)) = false := by decide) : Tab K mg ((c, col) :: r) :=
  .cons ⟨⟨db, .inl (PySem.W.mg_of X G a)⟩, .ref C, .own C, rfl, fun _ _ s => kit_ref k t self bx s⟩ cl tl
theorem tabt_mk {c : Str} {T : String} {col : List (Str × Bool)} {r : List (Str × List (Str × Bool))} (X : K.In h) (G : h.Ns mainGlobals mg) (a : PySem.W.nsIn K mainGlobals c = some none) (bt : bootBuiltins c = some (.type T)) (k : PySem.W.kitMeta T = true) (bx : PySem.W.subIn K (.type T) (.type "BaseException") = some true)
    (cl : Col K mg (.type T) col) (tl : Tab K mg r) (db : (c == ("__debug__" : Str)) = false := by decide) (nn : c ≠ "__name__" := by decide) : Tab K mg ((c, col) :: r) :=
  .cons ⟨⟨db, .inr ⟨PySem.W.mg_none_of X G a, bt, nn⟩⟩, .ty T, .ty T, rfl, fun _ _ s => kit_ty k bx s⟩ cl tl
end
/-! ### readings, as equations -/
def ftB (ft : List (Str × Str)) (c f : Str) : Bool := ft.contains (c, f)
def ownB (own : List Str) (c : Str) : Bool := own.contains c
def anyM (a b : Option Bool) : Option Bool := match a with
  | some true => some true
  | some false => b
  | none => none
section
variable {X : Cx} {B : Bs} {E : ER} {k : Nat} {x : Str} {fs : List Str} {e : Expr} {es : List Expr} {t : AD} {p pos pos' : Pos} {tab : Str → Str → Option Bool} {own named : List Str} {ft : List (Str × Str)} {c f g n : Str} {y z : D} {σ : Sd} {h : Hd} {Q : KD} {D1 : EndsD} {hs : List HndD} {i : Nat} {a : Addr} {cs : List Str} {xs : List (Str × D)} {b : ER → SD} {ts : Addr → XD → SD}
theorem ds_raiseD (T : ExD X.prog X.K X.mg x fs) (rg : Rg X B E) (hr : Room k X.A) (hk : 2 ≤ k) (ha : DA X B (e :: es) t) (hg : Gl X x := by rfl)
    (hdb : (x == ("__debug__" : Str)) = false := by decide) (he : starEach (e :: es) X.env = (false, eval e X.env) :: starEach es X.env := by rfl) (hpl : (backTo pos (starEach es X.env)).any (·.1) = false := by rfl) :
    DS X B (.Raise (some (.Call (.Name x p) (e :: es) [] pos)) none pos') (dRaise x fs E t) := by
  obtain ⟨C, T⟩ := T
  exact ds_raise (T X.w X.base) rg hr hk ha hg hdb he hpl
theorem er_known (T : ErT X.K X.mg tab own ft named) (hc : c ∈ named) : ∃ u, NmV X.mg c u ∧ ∀ n b k, tab n c = some b → X.mg n = some k → PySem.W.exmOne X.K k u = some b := by
  obtain ⟨w, u, m, _, _, kk⟩ := T.named c hc
  exact ⟨u, m, fun n b k h1 h2 => (kk n b k h1 h2).2⟩
theorem dRaise_1 : dRaise x [f] E t D1 σ h = t σ h fun ds h1 => ds.length = 1 ∧ E ⟨x, ([f].zip ds).reverse⟩ σ h1 := rfl
theorem dRaise_2 : dRaise x [f, g] E t D1 σ h = t σ h fun ds h1 => ds.length = 2 ∧ E ⟨x, ([f, g].zip ds).reverse⟩ σ h1 := rfl
theorem zip_1 : ([f].zip [y]).reverse = [(f, y)] := rfl
theorem zip_2 : ([f, g].zip [y, z]).reverse = [(g, z), (f, y)] := rfl
theorem len_1 : ([y].length = 1) = True := by simp
theorem len_2 : ([y, z].length = 2) = True := by simp
theorem dTry_s : dTry b tab hs E D1 σ h = b (hE tab E D1 hs) D1 σ h := rfl
theorem hE_hit {xd : XD} (ht : tab xd.cls c = some true) (q : ∀ a, h a = none → ts a xd (dropD none D1) (keepD none σ a) h) : hE tab E D1 ((c, none, ts) :: hs) xd σ h := ⟨true, ht, fun _ => q, fun z => by cases z⟩
theorem hE_hit_as {xd : XD} (ht : tab xd.cls c = some true) (q : ∀ a, h a = none → ts a xd (dropD (some i) D1) (keepD (some i) σ a) h) : hE tab E D1 ((c, some i, ts) :: hs) xd σ h := ⟨true, ht, fun _ => q, fun z => by cases z⟩
theorem hE_miss {o : Option Nat} {xd : XD} (ht : tab xd.cls c = some false) (q : hE tab E D1 hs xd σ h) : hE tab E D1 ((c, o, ts) :: hs) xd σ h := ⟨false, ht, (fun z => absurd z (by decide)), fun _ => q⟩
theorem hE_out {xd : XD} : hE tab E D1 [] xd σ h = E xd σ h := rfl
theorem dropD_rt : (dropD (some i) D1).rt = D1.rt := rfl
theorem dropD_nx : (dropD (some i) D1).nx σ h = D1.nx (uS σ i) h := by rw [uS_eq]; rfl
theorem dropD_bk : (dropD (some i) D1).bk σ h = D1.bk (uS σ i) h := by rw [uS_eq]; rfl
theorem dropD_ct : (dropD (some i) D1).ct σ h = D1.ct (uS σ i) h := by rw [uS_eq]; rfl
theorem dropD_no : dropD none D1 = D1 := rfl
theorem keepD_s : keepD (some i) σ a = sS σ i (.v (.ref a)) := by rw [sS_eq]; rfl
theorem keepD_no : keepD none σ a = σ := rfl
theorem dXf_s : dXf i a ⟨c, xs⟩ ft f σ h Q = (gS σ i = some (.v (.ref a)) ∧ ftB ft c f = true ∧ mO (xs.lookup f) fun y => Q y h) := by
  unfold dXf ftB
  rw [List.contains_iff_mem]
  refine propext ⟨fun ⟨h1, h2, y, h3, q⟩ => ⟨h1, h2, by rw [show xs.lookup f = some y from h3, mO_some]; exact q⟩, fun ⟨h1, h2, q⟩ => ⟨h1, h2, ?_⟩⟩
  obtain ⟨y, e, q⟩ := mO_ex q
  exact ⟨y, e, q⟩
theorem dXi_s : dXi i a ⟨c, xs⟩ own tab n σ h Q = (gS σ i = some (.v (.ref a)) ∧ ownB own c = true ∧ mO (tab c n) fun b => Q (.v (.bl b)) h) := by
  unfold dXi ownB
  rw [List.contains_iff_mem]
  refine propext ⟨fun ⟨h1, h2, y, h3, q⟩ => ⟨h1, h2, by rw [show tab c n = some y from h3, mO_some]; exact q⟩, fun ⟨h1, h2, q⟩ => ⟨h1, h2, ?_⟩⟩
  obtain ⟨y, e, q⟩ := mO_ex q
  exact ⟨y, e, q⟩
theorem dXis_s : dXis i a ⟨c, xs⟩ own tab cs σ h Q = (gS σ i = some (.v (.ref a)) ∧ ownB own c = true ∧ mO (anyT tab c cs) fun b => Q (.v (.bl b)) h) := by
  unfold dXis ownB
  rw [List.contains_iff_mem]
  refine propext ⟨fun ⟨h1, h2, y, h3, q⟩ => ⟨h1, h2, by rw [show anyT tab c cs = some y from h3, mO_some]; exact q⟩, fun ⟨h1, h2, q⟩ => ⟨h1, h2, ?_⟩⟩
  obtain ⟨y, e, q⟩ := mO_ex q
  exact ⟨y, e, q⟩
theorem anyT_n : anyT tab c [] = some false := rfl
theorem anyT_c : anyT tab c (n :: cs) = anyM (tab c n) (anyT tab c cs) := by
  show (match tab c n with
    | some true => some true
    | some false => anyT tab c cs
    | none => none) = anyM (tab c n) (anyT tab c cs)
  generalize anyT tab c cs = z
  cases tab c n with
  | none => rfl
  | some b => cases b <;> rfl
theorem anyM_t {o : Option Bool} : anyM (some true) o = some true := rfl
theorem anyM_f {o : Option Bool} : anyM (some false) o = o := rfl
theorem lk_hit : ((f, y) :: xs).lookup f = some y := by simp [List.lookup]
end
def rds13 := (And.intro @dRaise_1 (And.intro @dRaise_2 (And.intro @zip_1 (And.intro @zip_2 (And.intro @len_1 (And.intro @len_2 (And.intro @dTry_s (And.intro @dropD_rt (And.intro @dropD_nx (And.intro @dropD_bk (And.intro @dropD_ct (And.intro @dropD_no (And.intro @keepD_s (And.intro @keepD_no (And.intro @dXf_s (And.intro @dXi_s (And.intro @dXis_s (And.intro @anyT_n (And.intro @anyT_c (And.intro @anyM_t (And.intro @anyM_f (And.intro @lk_hit trivial))))))))))))))))))))))
end DL
/-! DLva: text.index(sign) -/
namespace DL
open PySem L2
section
variable {X : Cx} {B : Bs} {a b : Str} {h : Hd} {Q : KD}
def ixS (a b : Str) : Option Nat := (Builtin.Str.occurrences a b 0 a.length 1).head?
def mSIndex : MD := fun x ds h Q => match x, ds with
  | .v (.str a), [.v (.str b)] => mO (ixS a b) fun i => Q (.v (.int (i : Nat))) h
  | _, _ => False
theorem dm_sindex : DMt X "str.index" mSIndex := dmt_of mt_sindex fun x xs H Q ⟨dx, ds, h, Qd, rx, rv, rh, q, o⟩ => by
  unfold mSIndex at q
  split at q
  · obtain ⟨i, e, q⟩ := mO_ex q
    cases rx
    cases rv with
    | cons r1 r2 =>
      cases r2; cases r1
      unfold ixS at e
      cases l : Builtin.Str.occurrences _ _ 0 _ 1 with
      | nil => rw [l] at e; cases e
      | cons j r =>
        rw [l] at e
        cases e
        exact ⟨_, _, _, _, rfl, rfl, l, o _ _ _ _ q (Go.refl rh) (.v _)⟩
  · exact q.elim
theorem mSIndex_s : mSIndex (.v (.str a)) [.v (.str b)] h Q = mO (ixS a b) fun i => Q (.v (.int (i : Nat))) h := rfl
end
/-! ### list.insert -/
def insO (o : Option O) (a : Addr) (i : Int) (y : D) (h : Hd) (Q : KD) : Prop := match o with
  | some (.lst xs) => xs.length < sizeLine ∧ 0 ≤ i ∧ i < 2 ^ 63 ∧ Q (.v .non) (put h a (.lst (xs.take i.toNat ++ [y] ++ xs.drop i.toNat)))
  | _ => False
def mInsert : MD := fun x ds h Q => match x, ds with
  | .v (.ref a), [.v (.int i), y] => insO (h a) a i y h Q
  | _, _ => False
theorem rps_take {K : PySem.W.Frag} {H : Hp} : ∀ {ds : List D} {vs : List V} (n : Nat), Rps K H ds vs → Rps K H (ds.take n) (vs.take n)
  | _, _, 0, _ => by rw [List.take_zero, List.take_zero]; exact .nil
  | _, _, _ + 1, .nil => .nil
  | _, _, n + 1, .cons r t => .cons r (rps_take n t)
theorem rps_drop {K : PySem.W.Frag} {H : Hp} : ∀ {ds : List D} {vs : List V} (n : Nat), Rps K H ds vs → Rps K H (ds.drop n) (vs.drop n)
  | _, _, 0, r => r
  | _, _, _ + 1, .nil => .nil
  | _, _, n + 1, .cons r t => rps_drop n t
theorem dm_insert {X : Cx} : DMt X "list.insert" mInsert := dmt_of mt_insert fun x xs H Q ⟨dx, ds, h, Qd, rx, rv, rh, q, o⟩ => by
  unfold mInsert at q
  split at q
  · unfold insO at q
    split at q
    · rename_i ys e
      obtain ⟨hz, h0, h1, q⟩ := q
      cases rx
      cases rv with
      | cons r1 r2 =>
        cases r2 with
        | cons r2 r3 =>
          cases r3; cases r1
          obtain ⟨vs, hv, r⟩ := lst_ok rh e
          exact ⟨_, vs, _, _, rfl, rfl, hv, by rw [← r.length]; exact hz, h0, h1, o _ _ _ _ q (Go.set rh e hv trivial ⟨_, rfl, (((rps_take _ r).append (.cons r2 .nil)).append (rps_drop _ r)).stb (Stb.set hv trivial)⟩) (.v _)⟩
    · exact q.elim
  · exact q.elim
theorem insO_l {xs : List D} {a : Addr} {i : Int} {y : D} {h : Hd} {Q : KD} : insO (some (.lst xs)) a i y h Q = (xs.length < sizeLine ∧ 0 ≤ i ∧ i < 2 ^ 63 ∧ Q (.v .non) (put h a (.lst (xs.take i.toNat ++ [y] ++ xs.drop i.toNat)))) := rfl
theorem mInsert_s {a : Addr} {i : Int} {y : D} {h : Hd} {Q : KD} : mInsert (.v (.ref a)) [.v (.int i), y] h Q = insO (h a) a i y h Q := rfl
/-! ### NAME.index(text), NAME a tuple of texts at the module's top -/
def ixStr : List Str → Str → Option Nat
  | [], _ => none
  | a :: r, z => if a = z then some 0 else (ixStr r z).map (· + 1)
theorem ixStr_ok : ∀ {l : List Str} {z : Str} {j : Nat}, ixStr l z = some j → l[j]? = some z ∧ ∀ m, m < j → l[m]? ≠ some z
  | [], _, _, e => by cases e
  | a :: r, z, j, e => by
    unfold ixStr at e
    split at e
    · rename_i c
      cases e
      exact ⟨by rw [c]; rfl, fun m hm => absurd hm (Nat.not_lt_zero _)⟩
    · rename_i c
      cases e1 : ixStr r z with
      | none => rw [e1] at e; cases e
      | some k =>
        rw [e1] at e
        cases e
        obtain ⟨h1, h2⟩ := ixStr_ok e1
        refine ⟨by simpa using h1, fun m hm => ?_⟩
        cases m with
        | zero => simpa using c
        | succ m => simpa using h2 m (Nat.lt_of_succ_lt_succ hm)
structure KTp (K : PySem.W.Frag) (mg : Str → Option Value) (x : Str) (d : D) : Prop where
  ex : ∃ p o, mg x = some (.ref p) ∧ K.lookup p = some o ∧ o.cls = .type "tuple" ∧ o.dict = none ∧ ∀ H, Rp K H d (.ref p)
theorem ktp_mk {K : PySem.W.Frag} {h : Heap} {mg : Str → Option Value} (X : K.In h) (G : h.Ns mainGlobals mg) {x : Str} {d : D} {p : Addr} {its : Array Value} {n : Nat} {sl : Array (Option Value)} (a : PySem.W.nsIn K mainGlobals x = some (some (.ref p)))
    (l : K.lookup p = some ⟨.type "tuple", none, .seq its n, sl⟩) (r : Uv K d (.ref p)) : KTp K mg x d := by
  obtain ⟨v, r1, r2⟩ := r
  have e : v = .ref p := by
    cases v with
    | ref q => rw [show p = q from by have : Value.ref p = .ref q := r1; cases this; rfl]
    | non => cases r1
    | bl b => cases r1
    | int i => obtain ⟨t, e⟩ := r1; cases e
    | str i => obtain ⟨t, e⟩ := r1; cases e
    | byt i => obtain ⟨t, e⟩ := r1; cases e
    | flt i => obtain ⟨t, e⟩ := r1; cases e
    | ty i => cases r1
  subst e
  exact ⟨p, _, PySem.W.mg_of X G a, l, rfl, rfl, r2⟩
def kix (d : D) (ds : List D) (h : Hd) (Q : KD) : Prop := match d, ds with
  | .t es, [.v (.str z)] => mO ((strsD es).bind fun ys => ixStr ys z) fun j => Q (.v (.int (j : Nat))) h
  | _, _ => False
theorem kix_ok {d : D} {ds : List D} {h : Hd} {Q : KD} (q : kix d ds h Q) : ∃ es z ys j, d = .t es ∧ ds = [.v (.str z)] ∧ strsD es = some ys ∧ ixStr ys z = some j ∧ Q (.v (.int (j : Nat))) h := by
  unfold kix at q
  split at q
  · obtain ⟨j, ej, q2⟩ := mO_ex q
    obtain ⟨ys, e1, e2⟩ := Option.bind_eq_some_iff.mp ej
    exact ⟨_, _, ys, j, rfl, rfl, e1, e2, q2⟩
  · exact q.elim
def dKix (d : D) (t : AD) : ED := fun σ h Q => t σ h fun ds h1 => kix d ds h1 Q
theorem dKix_s {d : D} {t : AD} {σ : Sd} {h : Hd} {Q : KD} : dKix d t σ h Q = t σ h fun ds h1 => kix d ds h1 Q := rfl
theorem kix_s {es : List D} {z : Str} {h : Hd} {Q : KD} : kix (.t es) [.v (.str z)] h Q = mO ((strsD es).bind fun ys => ixStr ys z) fun j => Q (.v (.int (j : Nat))) h := rfl
section
variable {X : Cx} {B : Bs} {e : Expr} {es : List Expr} {x : Str} {d : D} {t : AD} {px apos cpos : Pos}
theorem de_kix (k : KTp X.K X.mg x d) (ha : DA X B (e :: es) t) (hg : Gl X x := by rfl) (hd : (x == ("__debug__" : Str)) = false := by decide)
    (hbase : attributeBase (.Name x px) "index" X.env (eval (.Name x px) X.env) = eval (.Name x px) X.env := by rfl)
    (hfew : ((backTo cpos (starEach (e :: es) X.env)).all (fun x => !x.1) && (backToKw cpos (keywordEach [] X.env)).all (fun x => x.1.isSome)
      && decide ((e :: es).length + ([] : List Keyword).length + (if ([] : List Keyword).isEmpty then 0 else 1) < 30)) = true := by rfl)
    (hline : (apos.endLine == cpos.line) = true := by rfl) (hs : starEach (e :: es) X.env = (false, eval e X.env) :: starEach es X.env := by rfl) (hplain : (backTo cpos (starEach es X.env)).any (·.1) = false := by rfl) :
    DE X B (.Call (.Attribute (.Name x px) "index" apos) (e :: es) [] cpos) (dKix d t) := by
  obtain ⟨p, o, m, lk, oc, od, rp⟩ := k.ex
  refine PE.imp (pe_bm PySem.F.plainAttrs_tuple PySem.F.slot_tuple_index PySem.F.type_tuple_index mt_tup_index (pe_glob (v := .ref p) hg m rfl hd) ha hbase hfew hline hs hplain) fun σV H QV ⟨σ, h, Q, r0, q, out⟩ => ?_
  refine ⟨.inr (.inl ⟨rfl, o, lk, oc, od⟩), σ, h, _, r0, q, fun ds h1 vs H1 q1 g1 rv _ => ?_⟩
  obtain ⟨es', z, ys, j, rfl, rfl, es1, e2, q2⟩ := kix_ok q1
  obtain ⟨h1', h2'⟩ := ixStr_ok e2
  cases rv with
  | cons r1 r2 =>
    cases r2; cases r1
    have r := rp H1
    rw [strsD_ok es1] at r
    cases r with
    | t sq r =>
      have := rps_strs r
      subst this
      exact ⟨p, ys, z, j, rfl, rfl, sq, h1', h2', out _ h1 _ H1 q2 g1 (.v _)⟩
end
def rds14 := (And.intro @mSIndex_s (And.intro @insO_l (And.intro @mInsert_s (And.intro @dKix_s (And.intro @kix_s trivial)))))
end DL
/-! DLp: the pool of a law of the first kind, and its judge of sameness -/
namespace DL
open PySem L2
def poolO (q : Addr) (s : Int × Int × Int) : O := .lst [.v (.ref q), .v (.int s.1), .v (.int s.2.1), .v (.int s.2.2)]
structure PoolAt (h : Hd) (p q : Addr) (cells : List Int) : Prop where
  st : ∃ s, h p = some (poolO q s)
  cl : h q = some (.lst (intsD cells))
  ne : q ≠ p
  ln : cells.length ≤ 63
def sp_law_draw : SpD := fun ds h Q _ => ds.length = 2 ∧ ∃ (p q : Addr) (cells : List Int) (many : Int), ds = [.v (.ref p), .v (.int many)] ∧ PoolAt h p q cells ∧ 0 < many ∧ many.natAbs.log2 < 9000 ∧
  ∀ (k : Int) (s : Int × Int × Int), 0 ≤ k → k < many → Q (.v (.int k)) (put h p (poolO q s))
def rd_law_draw (E : ER) : SD :=
  dSeq (dAsg (d2 pAdd (d2 pIt (dVar 0) (dC (.v (.int 3)))) (dC (.v (.int 1)))) (subG (dVar 0) (dC (.v (.int 3))) setK))
  (dSeq (dIfS (dTest (d2 pGt (d2 pIt (dVar 0) (dC (.v (.int 2)))) (dC (.v (.int 0))))) (dSeq (dAsg (d2 pMod (dCB cInt (dCons (d2 pIt (dVar 0) (dC (.v (.int 2)))) (dNil))) (dVar 1)) (nG 5))
  (dSeq (dAsg (d2 pFdv (d2 pIt (dVar 0) (dC (.v (.int 2)))) (dVar 1)) (subG (dVar 0) (dC (.v (.int 2))) setK))
  (dRet (dVar 5)))) (dNext))
  (dSeq (dAsg (dC (.v (.int 0))) (nG 2))
  (dSeq (dIfS (dTest (d2 pGt (dCB cLen (dCons (d2 pIt (dVar 0) (dC (.v (.int 0)))) (dNil))) (dC (.v (.int 0))))) (dSeq (dAsg (d2 pIt (d2 pIt (dVar 0) (dC (.v (.int 0)))) (d2 pMod (dCB cInt (dCons (d2 pIt (dVar 0) (dC (.v (.int 1)))) (dNil))) (dCB cLen (dCons (d2 pIt (dVar 0) (dC (.v (.int 0)))) (dNil))))) (nG 2))
  (dSeq (dAsg (d2 pAdd (d2 pIt (dVar 0) (dC (.v (.int 1)))) (dC (.v (.int 1)))) (subG (dVar 0) (dC (.v (.int 1))) setK))
  (dIfS (dAnd (dTest (d2 pLe (d2 pIt (dVar 0) (dC (.v (.int 1)))) (dCB cLen (dCons (d2 pIt (dVar 0) (dC (.v (.int 0)))) (dNil))))) (dTest (d2 pGe (dVar 2) (d2 pPow (dC (.v (.int 10))) (dC (.v (.int 18))))))) (dSeq (dAsg (d2 pFdv (dVar 2) (dVar 1)) (subG (dVar 0) (dC (.v (.int 2))) setK))
  (dRet (d2 pMod (dCB cInt (dCons (dVar 2) (dNil))) (dVar 1)))) (dNext)))) (dNext))
  (dSeq (dAsg (d2 pMod (dCB cInt (dCons (d2 pAdd (d2 pAdd (d2 pMul (dVar 2) (dC (.v (.int 48271)))) (d2 pMul (d2 pIt (dVar 0) (dC (.v (.int 3)))) (dC (.v (.int 69621))))) (dC (.v (.int 48271)))) (dNil))) (dC (.v (.int 2147483647)))) (nG 3))
  (dSeq (dAsg (d2 pMod (dCB cInt (dCons (d2 pAdd (d2 pAdd (d2 pMul (dVar 3) (dVar 3)) (d2 pFdv (dVar 2) (dC (.v (.int 97))))) (d2 pIt (dVar 0) (dC (.v (.int 3))))) (dNil))) (dC (.v (.int 2147483629)))) (nG 4))
  (dRet (d2 pMod (d2 pFdv (d2 pMod (dCB cInt (dCons (d2 pAdd (d2 pMul (dVar 4) (dC (.v (.int 16807)))) (dVar 3)) (dNil))) (dC (.v (.int 2147483587)))) (dC (.v (.int 11)))) (dVar 1))))))))
abbrev N_law_draw : List Str := ["pool", "many", "cell", "one", "two", "found"]
theorem len_intsD (ns : List Int) : (intsD ns).length = ns.length := List.length_map _
theorem atI_ints {ns : List Int} {i : Int} (h0 : 0 ≤ i) (h1 : i < (ns.length : Int)) : ∃ z : Int, atI (intsD ns) i = some (.v (.int z)) := by
  obtain ⟨j, rfl⟩ := Int.eq_ofNat_of_zero_le h0
  have hj : j < ns.length := by omega
  exact ⟨ns[j], atI_nat (by unfold intsD; rw [List.getElem?_map, List.getElem?_eq_getElem hj]; rfl)⟩
theorem mulOk_r {i : Int} (j : Int) (h : -(2 ^ 64) < j ∧ j < 2 ^ 64) : mulOk i j := .inl (.inr h)
theorem mulOk_l {j : Int} (i : Int) (h : -(2 ^ 64) < i ∧ i < 2 ^ 64) : mulOk i j := .inl (.inl h)
theorem divOk_c (j : Int) (h : 0 < j) (h' : j.natAbs < 2 ^ 64) : divOk j := ⟨h, Nat.lt_trans ((Nat.log2_lt (by omega)).mpr h') (by decide)⟩
theorem ok_law_draw : ∀ ds h Q E, sp_law_draw ds h Q E → rd_law_draw (fun x _ h' => E x h') (fin Q) (startD N_law_draw ds) h := by
  rintro ds h Q E ⟨_, p, q, cells, many, rfl, P, h1, h2, ret⟩
  obtain ⟨⟨⟨a, b, c⟩, hp⟩, hq, hn, hl⟩ := P
  have hm : divOk many := ⟨h1, h2⟩
  have em : many ≠ 0 := by omega
  show rd_law_draw _ _ [some (.v (.ref p)), some (.v (.int many)), none, none, none, none] h
  unfold rd_law_draw
  try simp -dsimp -implicitDefEqProofs only [↓rds1, ↓rds2, ↓rds3, ↓rds4, ↓rds5, ↓rds6, ↓rds7, ↓rds8, ↓rds9, ↓rds10, ↓rds11, ↓rds12, List.set_cons_zero, List.set_cons_succ, ne_eq, not_false_eq_true, decide_eq_true_eq, Bool.or_true, Bool.or_false, Bool.true_or, Bool.false_or, Bool.and_true, Bool.true_and, Bool.and_false, Bool.false_and, Bool.not_true, Bool.not_false, reduceCtorEq, beq_self_eq_true, true_and, and_true, hp, poolO]
  refine dIte_by (fun hb => ?_) fun hb => ?_
  · try simp -dsimp -implicitDefEqProofs only [↓rds1, ↓rds2, ↓rds3, ↓rds4, ↓rds5, ↓rds6, ↓rds7, ↓rds8, ↓rds9, ↓rds10, ↓rds11, ↓rds12, List.set_cons_zero, List.set_cons_succ, ne_eq, not_false_eq_true, decide_eq_true_eq, Bool.or_true, Bool.or_false, Bool.true_or, Bool.false_or, Bool.and_true, Bool.true_and, Bool.and_false, Bool.false_and, Bool.not_true, Bool.not_false, reduceCtorEq, beq_self_eq_true, true_and, and_true, hp, poolO]
    refine ⟨h1, hm, finR ?_⟩
    exact ret _ (a, b / many, c + 1) (Int.emod_nonneg _ em) (Int.emod_lt_of_pos _ h1)
  have tail : ∀ (s : Int × Int × Int) (cell : Int) (D : EndsD) (h' : Hd), D.rt = (fin Q).rt → h' = put h p (poolO q s) → (dSeq (dAsg (d2 pMod (dCB cInt (dCons (d2 pAdd (d2 pAdd (d2 pMul (dVar 2) (dC (.v (.int 48271)))) (d2 pMul (d2 pIt (dVar 0) (dC (.v (.int 3)))) (dC (.v (.int 69621))))) (dC (.v (.int 48271)))) (dNil))) (dC (.v (.int 2147483647)))) (nG 3))
    (dSeq (dAsg (d2 pMod (dCB cInt (dCons (d2 pAdd (d2 pAdd (d2 pMul (dVar 3) (dVar 3)) (d2 pFdv (dVar 2) (dC (.v (.int 97))))) (d2 pIt (dVar 0) (dC (.v (.int 3))))) (dNil))) (dC (.v (.int 2147483629)))) (nG 4))
    (dRet (d2 pMod (d2 pFdv (d2 pMod (dCB cInt (dCons (d2 pAdd (d2 pMul (dVar 4) (dC (.v (.int 16807)))) (dVar 3)) (dNil))) (dC (.v (.int 2147483587)))) (dC (.v (.int 11)))) (dVar 1))))) D [some (.v (.ref p)), some (.v (.int many)), some (.v (.int cell)), none, none, none] h' := by
    rintro s cell D h' hD rfl
    try simp -dsimp -implicitDefEqProofs only [↓rds1, ↓rds2, ↓rds3, ↓rds4, ↓rds5, ↓rds6, ↓rds7, ↓rds8, ↓rds9, ↓rds10, ↓rds11, ↓rds12, List.set_cons_zero, List.set_cons_succ, ne_eq, not_false_eq_true, decide_eq_true_eq, Bool.or_true, Bool.or_false, Bool.true_or, Bool.false_or, Bool.and_true, Bool.true_and, Bool.and_false, Bool.false_and, Bool.not_true, Bool.not_false, reduceCtorEq, beq_self_eq_true, true_and, and_true, poolO]
    refine ⟨mulOk_r _ (by decide), mulOk_r _ (by decide), by decide, ?_⟩
    have b1 := Int.emod_nonneg (cell * 48271 + s.2.2 * 69621 + 48271) (show (2147483647 : Int) ≠ 0 by decide)
    have b2 := Int.emod_lt_of_pos (cell * 48271 + s.2.2 * 69621 + 48271) (show (0 : Int) < 2147483647 by decide)
    refine ⟨mulOk_r _ (by omega), divOk_c _ (by decide) (by decide), by decide, mulOk_r _ (by decide), by decide, divOk_c _ (by decide) (by decide), h1, ?_⟩
    rw [hD]
    exact finR (ret _ s (Int.emod_nonneg _ em) (Int.emod_lt_of_pos _ h1))
  try simp -dsimp -implicitDefEqProofs only [↓rds1, ↓rds2, ↓rds3, ↓rds4, ↓rds5, ↓rds6, ↓rds7, ↓rds8, ↓rds9, ↓rds10, ↓rds11, ↓rds12, List.set_cons_zero, List.set_cons_succ, ne_eq, not_false_eq_true, decide_eq_true_eq, Bool.or_true, Bool.or_false, Bool.true_or, Bool.false_or, Bool.and_true, Bool.true_and, Bool.and_false, Bool.false_and, Bool.not_true, Bool.not_false, reduceCtorEq, beq_self_eq_true, true_and, and_true, hb, hq, hn, len_intsD]
  refine dIte_by (fun hc => ?_) fun hc => ?_
  · try simp -dsimp -implicitDefEqProofs only [↓rds1, ↓rds2, ↓rds3, ↓rds4, ↓rds5, ↓rds6, ↓rds7, ↓rds8, ↓rds9, ↓rds10, ↓rds11, ↓rds12, List.set_cons_zero, List.set_cons_succ, ne_eq, not_false_eq_true, decide_eq_true_eq, Bool.or_true, Bool.or_false, Bool.true_or, Bool.false_or, Bool.and_true, Bool.true_and, Bool.and_false, Bool.false_and, Bool.not_true, Bool.not_false, reduceCtorEq, beq_self_eq_true, true_and, and_true, hq, hn, len_intsD]
    refine ⟨hc, ?_⟩
    obtain ⟨z, ez⟩ := atI_ints (ns := cells) (i := a % (cells.length : Int)) (Int.emod_nonneg _ (by omega)) (Int.emod_lt_of_pos _ hc)
    try simp -dsimp -implicitDefEqProofs only [↓rds1, ↓rds2, ↓rds3, ↓rds4, ↓rds5, ↓rds6, ↓rds7, ↓rds8, ↓rds9, ↓rds10, ↓rds11, ↓rds12, List.set_cons_zero, List.set_cons_succ, ne_eq, not_false_eq_true, decide_eq_true_eq, Bool.or_true, Bool.or_false, Bool.true_or, Bool.false_or, Bool.and_true, Bool.true_and, Bool.and_false, Bool.false_and, Bool.not_true, Bool.not_false, reduceCtorEq, beq_self_eq_true, true_and, and_true, hq, hn, len_intsD, ez]
    refine dIte_by (fun hd => ?_) fun hd => ?_
    · try simp -dsimp -implicitDefEqProofs only [↓rds1, ↓rds2, ↓rds3, ↓rds4, ↓rds5, ↓rds6, ↓rds7, ↓rds8, ↓rds9, ↓rds10, ↓rds11, ↓rds12, List.set_cons_zero, List.set_cons_succ, ne_eq, not_false_eq_true, decide_eq_true_eq, Bool.or_true, Bool.or_false, Bool.true_or, Bool.false_or, Bool.and_true, Bool.true_and, Bool.and_false, Bool.false_and, Bool.not_true, Bool.not_false, reduceCtorEq, beq_self_eq_true, true_and, and_true, hq, hn, len_intsD, ez]
      refine ⟨⟨by decide, by decide, by decide⟩, ?_⟩
      refine dIte_by (fun he => ?_) fun he => ?_
      · try simp -dsimp -implicitDefEqProofs only [↓rds1, ↓rds2, ↓rds3, ↓rds4, ↓rds5, ↓rds6, ↓rds7, ↓rds8, ↓rds9, ↓rds10, ↓rds11, ↓rds12, List.set_cons_zero, List.set_cons_succ, ne_eq, not_false_eq_true, decide_eq_true_eq, Bool.or_true, Bool.or_false, Bool.true_or, Bool.false_or, Bool.and_true, Bool.true_and, Bool.and_false, Bool.false_and, Bool.not_true, Bool.not_false, reduceCtorEq, beq_self_eq_true, true_and, and_true, hq, hn]
        refine ⟨hm, h1, finR ?_⟩
        exact ret _ (a + 1, z / many, c + 1) (Int.emod_nonneg _ em) (Int.emod_lt_of_pos _ h1)
      · exact tail (a + 1, b, c + 1) z _ _ rfl rfl
    · exact tail (a + 1, b, c + 1) z _ _ rfl rfl
  · exact tail (a, b, c + 1) 0 _ _ rfl rfl
/-! the pool is made -/
def sp_law_pool : SpD := fun ds h Q _ => ds.length = 1 ∧ ∃ ns : List Int, ds = [.k (intsD ns)] ∧ ns.length ≤ 63 ∧ ∀ p q : Addr, h q = none → h p = none → q ≠ p → Q (.v (.ref p)) (put (put h q (.lst (intsD ns))) p (poolO q (0, 0, 0)))
def rd_law_pool (E : ER) : SD :=
  dRet (dLst (dCons (dLc (iAnyD (dSl (dVar 0) (dNoPart) (dPart (dC (.v (.int 63)))))) (nG 1) (dYes) (dVar 1) [1]) (dCons (dC (.v (.int 0))) (dCons (dC (.v (.int 0))) (dCons (dC (.v (.int 0))) (dNil))))))
abbrev N_law_pool : List Str := ["script", "cell"]
theorem cut_all {xs : List D} {n : Nat} (hl : xs.length ≤ n) : cutD xs none (some (n : Int)) = xs := by
  unfold cutD
  have e1 : HT.sIx xs.length 0 none = 0 := rfl
  have e2 : HT.sIx xs.length xs.length (some (n : Int)) = xs.length := by
    rw [HT.sIx_nat]
    exact Nat.min_eq_right hl
  rw [e1, e2]
  simp
theorem ok_law_pool : ∀ ds h Q E, sp_law_pool ds h Q E → rd_law_pool (fun x _ h' => E x h') (fin Q) (startD N_law_pool ds) h := by
  rintro ds h Q E ⟨_, ns, rfl, hl, ret⟩
  show rd_law_pool _ _ [some (.k (intsD ns)), none] h
  unfold rd_law_pool
  have hcut : cutD (intsD ns) none (some 63) = intsD ns := cut_all (n := 63) (by rw [len_intsD]; exact hl)
  try simp -dsimp -implicitDefEqProofs only [↓rds1, ↓rds2, ↓rds3, ↓rds4, ↓rds5, ↓rds6, ↓rds7, ↓rds8, ↓rds9, ↓rds10, ↓rds11, ↓rds12, List.set_cons_zero, List.set_cons_succ, ne_eq, not_false_eq_true, decide_eq_true_eq, Bool.or_true, Bool.or_false, Bool.true_or, Bool.false_or, Bool.and_true, Bool.true_and, Bool.and_false, Bool.false_and, Bool.not_true, Bool.not_false, reduceCtorEq, beq_self_eq_true, true_and, and_true, hcut]
  refine al_i fun l hf => ?_
  try simp -dsimp -implicitDefEqProofs only [↓rds1, ↓rds2, ↓rds3, ↓rds4, ↓rds5, ↓rds6, ↓rds7, ↓rds8, ↓rds9, ↓rds10, ↓rds11, ↓rds12, List.set_cons_zero, List.set_cons_succ, ne_eq, not_false_eq_true, decide_eq_true_eq, Bool.or_true, Bool.or_false, Bool.true_or, Bool.false_or, Bool.and_true, Bool.true_and, Bool.and_false, Bool.false_and, Bool.not_true, Bool.not_false, reduceCtorEq, beq_self_eq_true, true_and, and_true, hcut]
  refine cmp_map (fun x => x) (rdL_l put_same) (by rw [len_intsD]; omega) (fun x hx S N hS => ?_) ?_
  · try simp -dsimp -implicitDefEqProofs only [↓rds1, ↓rds2, ↓rds3, ↓rds4, ↓rds5, ↓rds6, ↓rds7, ↓rds8, ↓rds9, ↓rds10, ↓rds11, ↓rds12, List.set_cons_zero, List.set_cons_succ, ne_eq, not_false_eq_true, decide_eq_true_eq, Bool.or_true, Bool.or_false, Bool.true_or, Bool.false_or, Bool.and_true, Bool.true_and, Bool.and_false, Bool.false_and, Bool.not_true, Bool.not_false, reduceCtorEq, beq_self_eq_true, true_and, and_true]
    exact hS
  rw [List.map_id']
  intro q hq
  try simp -dsimp -implicitDefEqProofs only [↓rds1, ↓rds2, ↓rds3, ↓rds4, ↓rds5, ↓rds6, ↓rds7, ↓rds8, ↓rds9, ↓rds10, ↓rds11, ↓rds12, List.set_cons_zero, List.set_cons_succ, ne_eq, not_false_eq_true, decide_eq_true_eq, Bool.or_true, Bool.or_false, Bool.true_or, Bool.false_or, Bool.and_true, Bool.true_and, Bool.and_false, Bool.false_and, Bool.not_true, Bool.not_false, reduceCtorEq, beq_self_eq_true, true_and, and_true]
  refine al_i fun p hp => ?_
  have q1 : q ≠ l := fun e => by rw [e, put_same] at hq; cases hq
  have p1 : p ≠ q := fun e => by rw [e, put_same] at hp; cases hp
  have p2 : p ≠ l := fun e => by rw [e, put_ne q1.symm, put_same] at hp; cases hp
  rw [put_ne q1] at hq
  rw [put_ne p1, put_ne p2] at hp
  refine finI (fun a o e => ?_) (ret p q hq hp p1.symm)
  by_cases ap : a = p
  · subst ap
    rw [put_same] at e ⊢
    exact e
  rw [put_ne ap] at e ⊢
  by_cases aq : a = q
  · subst aq
    rw [put_same] at e ⊢
    exact e
  rw [put_ne aq] at e ⊢
  have al' : a ≠ l := fun z => by rw [z, hf] at e; cases e
  rw [put_ne al']
  exact e
/-! sameness -/
def sameB (h : Hd) : Nat → D → D → Prop
  | 0, _, _ => False
  | n + 1, a, d => match d with
    | .v (.ref q) => ∃ (p : Addr) (xs ys : List D), a = .v (.ref p) ∧ h p = some (.lst xs) ∧ h q = some (.lst ys) ∧ xs.length = ys.length ∧ ys.length < 2 ^ 60 ∧ ∀ (i : Nat) (x y : D), xs[i]? = some x → ys[i]? = some y → sameB h n x y
    | .v x => flatV x = true ∧ a = .v x
    | .t ys => ∃ xs : List D, a = .t xs ∧ xs.length = ys.length ∧ ys.length < 2 ^ 60 ∧ ∀ (i : Nat) (x y : D), xs[i]? = some x → ys[i]? = some y → sameB h n x y
    | .k _ => False
def sp_law_same (n : Nat) : SpD := fun ds h Q _ => ds.length = 2 ∧ ∃ a d : D, ds = [a, d] ∧ sameB h n a d ∧ Q (.v (.bl true)) h
theorem sp0_law_same {ds : List D} {h : Hd} {Q : KD} {E : XD → Hd → Prop} (q : sp_law_same 0 ds h Q E) : False := by
  obtain ⟨_, _, _, _, s, _⟩ := q
  exact s
def rd_law_same (n : Nat) (E : ER) : SD :=
  dSeq (dIfS (dOr (dTest (dCB cIsi (dCons (dVar 1) (dCons (dC (.v (.ty "tuple"))) (dNil))))) (dTest (dCB cIsi (dCons (dVar 1) (dCons (dC (.v (.ty "list"))) (dNil)))))) (dSeq (dIfS (dAnd (dTest (dCB cIsi (dCons (dVar 1) (dCons (dC (.v (.ty "tuple"))) (dNil))))) (dNot (dTest (dCB cIsi (dCons (dVar 0) (dCons (dC (.v (.ty "tuple"))) (dNil))))))) (dRet (dC (.v (.bl false)))) (dNext))
  (dSeq (dIfS (dAnd (dTest (dCB cIsi (dCons (dVar 1) (dCons (dC (.v (.ty "list"))) (dNil))))) (dNot (dTest (dCB cIsi (dCons (dVar 0) (dCons (dC (.v (.ty "list"))) (dNil))))))) (dRet (dC (.v (.bl false)))) (dNext))
  (dSeq (dIfS (dTest (d2 pNe (dCB cLen (dCons (dVar 0) (dNil))) (dCB cLen (dCons (dVar 1) (dNil))))) (dRet (dC (.v (.bl false)))) (dNext))
  (dSeq (dFor (iRng1D (dCons (dCB cLen (dCons (dVar 1) (dNil))) (dNil))) (nG 2) (dIfS (dNot (dTest (dCall (sp_law_same n) E (dCons (d2 pIt (dVar 0) (dVar 2)) (dCons (d2 pIt (dVar 1) (dVar 2)) (dNil)))))) (dRet (dC (.v (.bl false)))) (dNext)))
  (dRet (dC (.v (.bl true)))))))) (dNext))
  (dSeq (dIfS (dTest (d2 pIsA (dVar 1) (dC (.v .non)))) (dRet (d2 pIsA (dVar 0) (dC (.v .non)))) (dNext))
  (dSeq (dIfS (dTest (dCB cIsi (dCons (dVar 1) (dCons (dC (.v (.ty "bool"))) (dNil))))) (dRet (dAndV (dCB cIsi (dCons (dVar 0) (dCons (dC (.v (.ty "bool"))) (dNil)))) (d2 pEqA (dVar 0) (dVar 1)))) (dNext))
  (dSeq (dIfS (dTest (dCB cIsi (dCons (dVar 1) (dCons (dC (.v (.ty "int"))) (dNil))))) (dRet (dAndV (dCB cIsi (dCons (dVar 0) (dCons (dC (.v (.ty "int"))) (dNil)))) (dAndV (dNotV (dCB cIsi (dCons (dVar 0) (dCons (dC (.v (.ty "bool"))) (dNil))))) (d2 pEqA (dVar 0) (dVar 1))))) (dNext))
  (dRet (dAndV (dCB cIsi (dCons (dVar 0) (dCons (dC (.v (.ty "str"))) (dNil)))) (d2 pEqA (dVar 0) (dVar 1)))))))
abbrev N_law_same : List Str := ["actual", "due", "at"]
theorem atI_of {xs : List D} {i : Nat} {x : D} (h : xs[i]? = some x) : atI xs (i : Int) = some x := atI_nat h
theorem rangeD_get {lo : Int} {n i : Nat} {x : D} (h : (rangeD lo n)[i]? = some x) : i < n ∧ x = .v (.int (lo + (i : Int))) := by
  unfold rangeD at h
  rw [List.getElem?_map] at h
  cases e : (List.range n)[i]? with
  | none => rw [e] at h; cases h
  | some j =>
    rw [e] at h
    obtain ⟨h1, h2⟩ := List.getElem?_eq_some_iff.mp e
    rw [List.getElem_range] at h2
    subst h2
    cases h
    exact ⟨by simpa using h1, rfl⟩
theorem lt62 {n : Nat} (h : n < 2 ^ 60) : (-4611686018427387904 : Int) ≤ (n : Int) ∧ (n : Int) < 4611686018427387904 := by
  have : (2 : Nat) ^ 60 = 1152921504606846976 := by decide
  omega
theorem toNat_n {n : Nat} : (n : Int).toNat = n := Int.toNat_natCast n
theorem ok_law_same (n : Nat) : ∀ ds h Q E, sp_law_same (n + 1) ds h Q E → rd_law_same n (fun x _ h' => E x h') (fin Q) (startD N_law_same ds) h := by
  rintro ds h Q E ⟨_, a, d, rfl, s, ret⟩
  show rd_law_same _ _ _ [some a, some d, none] h
  unfold rd_law_same
  cases d with
  | k ds => exact s.elim
  | t ys =>
    obtain ⟨xs, rfl, hl, hb, hs⟩ := s
    try simp -dsimp -implicitDefEqProofs only [↓rds1, ↓rds2, ↓rds3, ↓rds4, ↓rds5, ↓rds6, ↓rds7, ↓rds8, ↓rds9, ↓rds10, ↓rds11, ↓rds12, List.set_cons_zero, List.set_cons_succ, ne_eq, not_false_eq_true, decide_eq_true_eq, Bool.or_true, Bool.or_false, Bool.true_or, Bool.false_or, Bool.and_true, Bool.true_and, Bool.and_false, Bool.false_and, Bool.not_true, Bool.not_false, reduceCtorEq, beq_self_eq_true, true_and, and_true, hl, decide_true, toNat_n]
    refine ⟨lt62 hb, loop_of (fun i σ h' => h' = h ∧ ∃ v, σ = [some (.t xs), some (.t ys), v]) ⟨rfl, _, rfl⟩ (fun _ _ _ _ _ => trivial) ?_ ?_⟩
    · rintro i x σ h' hx ⟨rfl, v, rfl⟩ N hN
      obtain ⟨hi, rfl⟩ := rangeD_get hx
      have e1 := atI_of (List.getElem?_eq_getElem (l := xs) (i := i) (by omega))
      have e2 := atI_of (List.getElem?_eq_getElem (l := ys) (i := i) hi)
      try simp -dsimp -implicitDefEqProofs only [↓rds1, ↓rds2, ↓rds3, ↓rds4, ↓rds5, ↓rds6, ↓rds7, ↓rds8, ↓rds9, ↓rds10, ↓rds11, ↓rds12, List.set_cons_zero, List.set_cons_succ, ne_eq, not_false_eq_true, decide_eq_true_eq, Bool.or_true, Bool.or_false, Bool.true_or, Bool.false_or, Bool.and_true, Bool.true_and, Bool.and_false, Bool.false_and, Bool.not_true, Bool.not_false, reduceCtorEq, beq_self_eq_true, true_and, and_true, Int.zero_add, e1, e2]
      refine cl_i ⟨rfl, _, _, rfl, hs i _ _ (List.getElem?_eq_getElem _) (List.getElem?_eq_getElem _), ?_⟩
      try simp -dsimp -implicitDefEqProofs only [↓rds1, ↓rds2, ↓rds3, ↓rds4, ↓rds5, ↓rds6, ↓rds7, ↓rds8, ↓rds9, ↓rds10, ↓rds11, ↓rds12, List.set_cons_zero, List.set_cons_succ, ne_eq, not_false_eq_true, decide_eq_true_eq, Bool.or_true, Bool.or_false, Bool.true_or, Bool.false_or, Bool.and_true, Bool.true_and, Bool.and_false, Bool.false_and, Bool.not_true, Bool.not_false, reduceCtorEq, beq_self_eq_true, true_and, and_true]
      exact hN _ _ ⟨rfl, _, rfl⟩
    · rintro σ h' ⟨rfl, v, rfl⟩
      try simp -dsimp -implicitDefEqProofs only [↓rds1, ↓rds2, ↓rds3, ↓rds4, ↓rds5, ↓rds6, ↓rds7, ↓rds8, ↓rds9, ↓rds10, ↓rds11, ↓rds12, List.set_cons_zero, List.set_cons_succ, ne_eq, not_false_eq_true, decide_eq_true_eq, Bool.or_true, Bool.or_false, Bool.true_or, Bool.false_or, Bool.and_true, Bool.true_and, Bool.and_false, Bool.false_and, Bool.not_true, Bool.not_false, reduceCtorEq, beq_self_eq_true, true_and, and_true]
      exact finR ret
  | v x =>
    cases x with
    | non =>
      obtain ⟨_, rfl⟩ := s
      try simp -dsimp -implicitDefEqProofs only [↓rds1, ↓rds2, ↓rds3, ↓rds4, ↓rds5, ↓rds6, ↓rds7, ↓rds8, ↓rds9, ↓rds10, ↓rds11, ↓rds12, List.set_cons_zero, List.set_cons_succ, ne_eq, not_false_eq_true, decide_eq_true_eq, Bool.or_true, Bool.or_false, Bool.true_or, Bool.false_or, Bool.and_true, Bool.true_and, Bool.and_false, Bool.false_and, Bool.not_true, Bool.not_false, reduceCtorEq, beq_self_eq_true, true_and, and_true]
      exact finR ret
    | int i =>
      obtain ⟨_, rfl⟩ := s
      try simp -dsimp -implicitDefEqProofs only [↓rds1, ↓rds2, ↓rds3, ↓rds4, ↓rds5, ↓rds6, ↓rds7, ↓rds8, ↓rds9, ↓rds10, ↓rds11, ↓rds12, List.set_cons_zero, List.set_cons_succ, ne_eq, not_false_eq_true, decide_eq_true_eq, Bool.or_true, Bool.or_false, Bool.true_or, Bool.false_or, Bool.and_true, Bool.true_and, Bool.and_false, Bool.false_and, Bool.not_true, Bool.not_false, reduceCtorEq, beq_self_eq_true, true_and, and_true, decide_true]
      exact finR ret
    | bl k =>
      obtain ⟨_, rfl⟩ := s
      try simp -dsimp -implicitDefEqProofs only [↓rds1, ↓rds2, ↓rds3, ↓rds4, ↓rds5, ↓rds6, ↓rds7, ↓rds8, ↓rds9, ↓rds10, ↓rds11, ↓rds12, List.set_cons_zero, List.set_cons_succ, ne_eq, not_false_eq_true, decide_eq_true_eq, Bool.or_true, Bool.or_false, Bool.true_or, Bool.false_or, Bool.and_true, Bool.true_and, Bool.and_false, Bool.false_and, Bool.not_true, Bool.not_false, reduceCtorEq, beq_self_eq_true, true_and, and_true, decide_true]
      refine ⟨by simp [plD, flatV], ?_⟩
      have e : eqD (.v (.bl k)) (.v (.bl k)) = true := by unfold eqD; exact eqV_refl rfl
      rw [e]
      exact finR ret
    | str z =>
      obtain ⟨_, rfl⟩ := s
      try simp -dsimp -implicitDefEqProofs only [↓rds1, ↓rds2, ↓rds3, ↓rds4, ↓rds5, ↓rds6, ↓rds7, ↓rds8, ↓rds9, ↓rds10, ↓rds11, ↓rds12, List.set_cons_zero, List.set_cons_succ, ne_eq, not_false_eq_true, decide_eq_true_eq, Bool.or_true, Bool.or_false, Bool.true_or, Bool.false_or, Bool.and_true, Bool.true_and, Bool.and_false, Bool.false_and, Bool.not_true, Bool.not_false, reduceCtorEq, beq_self_eq_true, true_and, and_true, decide_true]
      exact finR ret
    | ref q =>
      obtain ⟨p, xs, ys, rfl, hp, hq, hl, hb, hs⟩ := s
      try simp -dsimp -implicitDefEqProofs only [↓rds1, ↓rds2, ↓rds3, ↓rds4, ↓rds5, ↓rds6, ↓rds7, ↓rds8, ↓rds9, ↓rds10, ↓rds11, ↓rds12, List.set_cons_zero, List.set_cons_succ, ne_eq, not_false_eq_true, decide_eq_true_eq, Bool.or_true, Bool.or_false, Bool.true_or, Bool.false_or, Bool.and_true, Bool.true_and, Bool.and_false, Bool.false_and, Bool.not_true, Bool.not_false, reduceCtorEq, beq_self_eq_true, true_and, and_true, hp, hq, hl, decide_true, toNat_n]
      refine ⟨lt62 hb, loop_of (fun i σ h' => h' = h ∧ ∃ v, σ = [some (.v (.ref p)), some (.v (.ref q)), v]) ⟨rfl, _, rfl⟩ (fun _ _ _ _ _ => trivial) ?_ ?_⟩
      · rintro i x σ h' hx ⟨rfl, v, rfl⟩ N hN
        obtain ⟨hi, rfl⟩ := rangeD_get hx
        have e1 := atI_of (List.getElem?_eq_getElem (l := xs) (i := i) (by omega))
        have e2 := atI_of (List.getElem?_eq_getElem (l := ys) (i := i) hi)
        try simp -dsimp -implicitDefEqProofs only [↓rds1, ↓rds2, ↓rds3, ↓rds4, ↓rds5, ↓rds6, ↓rds7, ↓rds8, ↓rds9, ↓rds10, ↓rds11, ↓rds12, List.set_cons_zero, List.set_cons_succ, ne_eq, not_false_eq_true, decide_eq_true_eq, Bool.or_true, Bool.or_false, Bool.true_or, Bool.false_or, Bool.and_true, Bool.true_and, Bool.and_false, Bool.false_and, Bool.not_true, Bool.not_false, reduceCtorEq, beq_self_eq_true, true_and, and_true, hp, hq, Int.zero_add, e1, e2]
        refine cl_i ⟨rfl, _, _, rfl, hs i _ _ (List.getElem?_eq_getElem _) (List.getElem?_eq_getElem _), ?_⟩
        try simp -dsimp -implicitDefEqProofs only [↓rds1, ↓rds2, ↓rds3, ↓rds4, ↓rds5, ↓rds6, ↓rds7, ↓rds8, ↓rds9, ↓rds10, ↓rds11, ↓rds12, List.set_cons_zero, List.set_cons_succ, ne_eq, not_false_eq_true, decide_eq_true_eq, Bool.or_true, Bool.or_false, Bool.true_or, Bool.false_or, Bool.and_true, Bool.true_and, Bool.and_false, Bool.false_and, Bool.not_true, Bool.not_false, reduceCtorEq, beq_self_eq_true, true_and, and_true]
        exact hN _ _ ⟨rfl, _, rfl⟩
      · rintro σ h' ⟨rfl, v, rfl⟩
        try simp -dsimp -implicitDefEqProofs only [↓rds1, ↓rds2, ↓rds3, ↓rds4, ↓rds5, ↓rds6, ↓rds7, ↓rds8, ↓rds9, ↓rds10, ↓rds11, ↓rds12, List.set_cons_zero, List.set_cons_succ, ne_eq, not_false_eq_true, decide_eq_true_eq, Bool.or_true, Bool.or_false, Bool.true_or, Bool.false_or, Bool.and_true, Bool.true_and, Bool.and_false, Bool.false_and, Bool.not_true, Bool.not_false, reduceCtorEq, beq_self_eq_true, true_and, and_true]
        exact finR ret
    | _ => obtain ⟨f, _⟩ := s; cases f
/-- data that are the same as themselves -/
def smD : Nat → D → Prop
  | 0, _ => False
  | n + 1, d => match d with
    | .v x => flatV x = true
    | .t ys => ys.length < 2 ^ 60 ∧ ∀ y, y ∈ ys → smD n y
    | .k _ => False
theorem same_refl {h : Hd} : ∀ {n : Nat} {d : D}, smD n d → sameB h n d d
  | 0, _, s => s.elim
  | n + 1, .k _, s => s.elim
  | n + 1, .t ys, s => ⟨ys, rfl, rfl, s.1, fun i x y e1 e2 => by
    rw [e1] at e2
    cases e2
    exact same_refl (s.2 x (List.mem_of_getElem? e1))⟩
  | n + 1, .v x, s => by
    cases x with
    | ref => cases (show flatV (.ref _) = true from s)
    | _ => exact ⟨s, rfl⟩
end DL
/-! DLq: drawn numbers, drawn moments that ascend -/
namespace DL
open PySem L2
/-! drawn numbers -/
def sp_law_number : SpD := fun ds h Q _ => ds.length = 1 ∧ ∃ (p q : Addr) (cells : List Int), ds = [.v (.ref p)] ∧ PoolAt h p q cells ∧ ∀ (k : Int) (s : Int × Int × Int), Q (.v (.int k)) (put h p (poolO q s))
def rd_law_number (E : ER) : SD :=
  dSeq (dAsg (dCall sp_law_draw E (dCons (dVar 0) (dCons (dC (.v (.int 9))) (dNil)))) (nG 1))
  (dSeq (dIfS (dTest (d2 pEqA (dCall sp_law_draw E (dCons (dVar 0) (dCons (dC (.v (.int 5))) (dNil)))) (dC (.v (.int 0))))) (dFor (iRng1D (dCons (d2 pAdd (dC (.v (.int 1))) (dCall sp_law_draw E (dCons (dVar 0) (dCons (dC (.v (.int 14))) (dNil))))) (dNil))) (nG 2) (dAsg (d2 pAdd (d2 pMul (dVar 1) (d2 pPow (dC (.v (.int 10))) (dC (.v (.int 60))))) (dCall sp_law_draw E (dCons (dVar 0) (dCons (d2 pPow (dC (.v (.int 10))) (dC (.v (.int 9)))) (dNil))))) (nG 1))) (dNext))
  (dSeq (dIfS (dTest (d2 pEqA (dCall sp_law_draw E (dCons (dVar 0) (dCons (dC (.v (.int 2))) (dNil)))) (dC (.v (.int 1))))) (dRet (d1 pNeg (dVar 1))) (dNext))
  (dRet (dVar 1))))
abbrev N_law_number : List Str := ["pool", "found", "turn"]
theorem pool_put {h : Hd} {p q : Addr} {cells : List Int} (P : PoolAt h p q cells) (s : Int × Int × Int) : PoolAt (put h p (poolO q s)) p q cells := ⟨⟨s, put_same⟩, by rw [put_ne P.ne]; exact P.cl, P.ne, P.ln⟩
theorem log_lt {k : Int} {n : Nat} (h0 : 0 ≤ k) (h : k < 2 ^ n) : k.natAbs.log2 ≤ n := by
  by_cases z : k.natAbs = 0
  · rw [z]; exact Nat.zero_le _
  · refine Nat.le_of_lt ((Nat.log2_lt z).mpr ?_)
    have e : ((k.natAbs : Nat) : Int) = k := by omega
    have : ((k.natAbs : Nat) : Int) < ((2 ^ n : Nat) : Int) := by rw [e]; simpa using h
    exact_mod_cast this
theorem ok_law_number : ∀ ds h Q E, sp_law_number ds h Q E → rd_law_number (fun x _ h' => E x h') (fin Q) (startD N_law_number ds) h := by
  rintro ds h Q E ⟨_, p, q, cells, rfl, P, ret⟩
  show rd_law_number _ _ [some (.v (.ref p)), none, none] h
  unfold rd_law_number
  try simp -dsimp -implicitDefEqProofs only [↓rds1, ↓rds2, ↓rds3, ↓rds4, ↓rds5, ↓rds6, ↓rds7, ↓rds8, ↓rds9, ↓rds10, ↓rds11, ↓rds12, List.set_cons_zero, List.set_cons_succ, ne_eq, not_false_eq_true, decide_eq_true_eq, Bool.or_true, Bool.or_false, Bool.true_or, Bool.false_or, Bool.and_true, Bool.true_and, Bool.and_false, Bool.false_and, Bool.not_true, Bool.not_false, reduceCtorEq, beq_self_eq_true, true_and, and_true]
  refine cl_i ⟨rfl, p, q, cells, 9, rfl, P, by decide, by decide, fun k s k0 k1 => ?_⟩
  try simp -dsimp -implicitDefEqProofs only [↓rds1, ↓rds2, ↓rds3, ↓rds4, ↓rds5, ↓rds6, ↓rds7, ↓rds8, ↓rds9, ↓rds10, ↓rds11, ↓rds12, List.set_cons_zero, List.set_cons_succ, ne_eq, not_false_eq_true, decide_eq_true_eq, Bool.or_true, Bool.or_false, Bool.true_or, Bool.false_or, Bool.and_true, Bool.true_and, Bool.and_false, Bool.false_and, Bool.not_true, Bool.not_false, reduceCtorEq, beq_self_eq_true, true_and, and_true]
  refine cl_i ⟨rfl, p, q, cells, 5, rfl, pool_put P s, by decide, by decide, fun k' s k0' k1' => ?_⟩
  -- the end
  have tail : ∀ (v : Option D) (k : Int) (s : Int × Int × Int) (D : EndsD) (h' : Hd), D.rt = (fin Q).rt → h' = put h p (poolO q s) → (dSeq (dIfS (dTest (d2 pEq (dCall sp_law_draw (fun x _ h' => E x h') (dCons (dVar 0) (dCons (dC (.v (.int 2))) (dNil)))) (dC (.v (.int 1))))) (dRet (d1 pNeg (dVar 1))) (dNext))
      (dRet (dVar 1))) D [some (.v (.ref p)), some (.v (.int k)), v] h' := by
    rintro v k s D h' hD rfl
    try simp -dsimp -implicitDefEqProofs only [↓rds1, ↓rds2, ↓rds3, ↓rds4, ↓rds5, ↓rds6, ↓rds7, ↓rds8, ↓rds9, ↓rds10, ↓rds11, ↓rds12, List.set_cons_zero, List.set_cons_succ, ne_eq, not_false_eq_true, decide_eq_true_eq, Bool.or_true, Bool.or_false, Bool.true_or, Bool.false_or, Bool.and_true, Bool.true_and, Bool.and_false, Bool.false_and, Bool.not_true, Bool.not_false, reduceCtorEq, beq_self_eq_true, true_and, and_true]
    refine cl_i ⟨rfl, p, q, cells, 2, rfl, pool_put P s, by decide, by decide, fun k' s k0' k1' => ?_⟩
    try simp -dsimp -implicitDefEqProofs only [↓rds1, ↓rds2, ↓rds3, ↓rds4, ↓rds5, ↓rds6, ↓rds7, ↓rds8, ↓rds9, ↓rds10, ↓rds11, ↓rds12, List.set_cons_zero, List.set_cons_succ, ne_eq, not_false_eq_true, decide_eq_true_eq, Bool.or_true, Bool.or_false, Bool.true_or, Bool.false_or, Bool.and_true, Bool.true_and, Bool.and_false, Bool.false_and, Bool.not_true, Bool.not_false, reduceCtorEq, beq_self_eq_true, true_and, and_true]
    refine dIte_by (fun _ => ?_) fun _ => ?_
    · try simp -dsimp -implicitDefEqProofs only [↓rds1, ↓rds2, ↓rds3, ↓rds4, ↓rds5, ↓rds6, ↓rds7, ↓rds8, ↓rds9, ↓rds10, ↓rds11, ↓rds12, List.set_cons_zero, List.set_cons_succ, ne_eq, not_false_eq_true, decide_eq_true_eq, Bool.or_true, Bool.or_false, Bool.true_or, Bool.false_or, Bool.and_true, Bool.true_and, Bool.and_false, Bool.false_and, Bool.not_true, Bool.not_false, reduceCtorEq, beq_self_eq_true, true_and, and_true]
      rw [hD]
      exact finR (ret _ s)
    · try simp -dsimp -implicitDefEqProofs only [↓rds1, ↓rds2, ↓rds3, ↓rds4, ↓rds5, ↓rds6, ↓rds7, ↓rds8, ↓rds9, ↓rds10, ↓rds11, ↓rds12, List.set_cons_zero, List.set_cons_succ, ne_eq, not_false_eq_true, decide_eq_true_eq, Bool.or_true, Bool.or_false, Bool.true_or, Bool.false_or, Bool.and_true, Bool.true_and, Bool.and_false, Bool.false_and, Bool.not_true, Bool.not_false, reduceCtorEq, beq_self_eq_true, true_and, and_true]
      rw [hD]
      exact finR (ret _ s)
  try simp -dsimp -implicitDefEqProofs only [↓rds1, ↓rds2, ↓rds3, ↓rds4, ↓rds5, ↓rds6, ↓rds7, ↓rds8, ↓rds9, ↓rds10, ↓rds11, ↓rds12, List.set_cons_zero, List.set_cons_succ, ne_eq, not_false_eq_true, decide_eq_true_eq, Bool.or_true, Bool.or_false, Bool.true_or, Bool.false_or, Bool.and_true, Bool.true_and, Bool.and_false, Bool.false_and, Bool.not_true, Bool.not_false, reduceCtorEq, beq_self_eq_true, true_and, and_true]
  refine dIte_by (fun _ => ?_) fun _ => ?_
  · try simp -dsimp -implicitDefEqProofs only [↓rds1, ↓rds2, ↓rds3, ↓rds4, ↓rds5, ↓rds6, ↓rds7, ↓rds8, ↓rds9, ↓rds10, ↓rds11, ↓rds12, List.set_cons_zero, List.set_cons_succ, ne_eq, not_false_eq_true, decide_eq_true_eq, Bool.or_true, Bool.or_false, Bool.true_or, Bool.false_or, Bool.and_true, Bool.true_and, Bool.and_false, Bool.false_and, Bool.not_true, Bool.not_false, reduceCtorEq, beq_self_eq_true, true_and, and_true]
    refine cl_i ⟨rfl, p, q, cells, 14, rfl, pool_put P s, by decide, by decide, fun m s m0 m1 => ?_⟩
    try simp -dsimp -implicitDefEqProofs only [↓rds1, ↓rds2, ↓rds3, ↓rds4, ↓rds5, ↓rds6, ↓rds7, ↓rds8, ↓rds9, ↓rds10, ↓rds11, ↓rds12, List.set_cons_zero, List.set_cons_succ, ne_eq, not_false_eq_true, decide_eq_true_eq, Bool.or_true, Bool.or_false, Bool.true_or, Bool.false_or, Bool.and_true, Bool.true_and, Bool.and_false, Bool.false_and, Bool.not_true, Bool.not_false, reduceCtorEq, beq_self_eq_true, true_and, and_true]
    refine ⟨by omega, loop_of (fun i σ h' => ∃ s v f, h' = put h p (poolO q s) ∧ σ = [some (.v (.ref p)), some (.v (.int f)), v] ∧ 0 ≤ f ∧ f < 2 ^ (250 * (i + 1))) ⟨s, none, k, rfl, rfl, k0, ?_⟩ (fun _ _ _ _ _ => trivial) ?_ ?_⟩
    · exact Int.lt_trans k1 (by decide)
    · rintro i x σ h' hx ⟨s, v, f, rfl, rfl, f0, f1⟩ N hN
      obtain ⟨hi, rfl⟩ := rangeD_get hx
      have hi : i < 14 := by omega
      try simp -dsimp -implicitDefEqProofs only [↓rds1, ↓rds2, ↓rds3, ↓rds4, ↓rds5, ↓rds6, ↓rds7, ↓rds8, ↓rds9, ↓rds10, ↓rds11, ↓rds12, List.set_cons_zero, List.set_cons_succ, ne_eq, not_false_eq_true, decide_eq_true_eq, Bool.or_true, Bool.or_false, Bool.true_or, Bool.false_or, Bool.and_true, Bool.true_and, Bool.and_false, Bool.false_and, Bool.not_true, Bool.not_false, reduceCtorEq, beq_self_eq_true, true_and, and_true]
      refine ⟨⟨by decide, by decide, by decide⟩, ⟨?_, ⟨⟨by decide, by decide, by decide⟩, ?_⟩⟩⟩
      · have l1 := log_lt f0 f1
        have l2 : ((10 : Int) ^ 60).natAbs.log2 = 199 := by decide +kernel
        refine .inr ?_
        show _ + ((10 : Int) ^ 60).natAbs.log2 < 1000000
        rw [l2]
        omega
      · refine cl_i ⟨rfl, p, q, cells, 10 ^ 9, rfl, pool_put P s, by decide, by decide, fun d s d0 d1 => ?_⟩
        try simp -dsimp -implicitDefEqProofs only [↓rds1, ↓rds2, ↓rds3, ↓rds4, ↓rds5, ↓rds6, ↓rds7, ↓rds8, ↓rds9, ↓rds10, ↓rds11, ↓rds12, List.set_cons_zero, List.set_cons_succ, ne_eq, not_false_eq_true, decide_eq_true_eq, Bool.or_true, Bool.or_false, Bool.true_or, Bool.false_or, Bool.and_true, Bool.true_and, Bool.and_false, Bool.false_and, Bool.not_true, Bool.not_false, reduceCtorEq, beq_self_eq_true, true_and, and_true]
        refine hN _ _ ⟨s, _, _, rfl, rfl, ?_, ?_⟩
        · exact Int.add_nonneg (Int.mul_nonneg f0 (by decide)) d0
        · show f * 10 ^ 60 + d < 2 ^ (250 * (i + 1 + 1))
          have e : (2 : Int) ^ (250 * (i + 1 + 1)) = 2 ^ (250 * (i + 1)) * 2 ^ 250 := by rw [← Int.pow_add]; rfl
          rw [e]
          generalize (2 : Int) ^ (250 * (i + 1)) = B at f1 ⊢
          have h1 : f * 10 ^ 60 ≤ (B - 1) * 10 ^ 60 := Int.mul_le_mul_of_nonneg_right (by omega) (by decide)
          have h2 : (B - 1) * 10 ^ 60 + 10 ^ 60 = B * 10 ^ 60 := by rw [Int.sub_mul, Int.one_mul]; omega
          have h3 : B * 10 ^ 60 ≤ B * 2 ^ 250 := Int.mul_le_mul_of_nonneg_left (by decide) (by omega)
          have h4 : (10 : Int) ^ 9 ≤ 10 ^ 60 := by decide
          have d1' : d < (10 : Int) ^ 9 := d1
          omega
    · rintro σ h' ⟨s, v, f, rfl, rfl, _, _⟩
      exact tail v f s _ _ rfl rfl
  · exact tail none k s _ _ rfl put_put
/-! moments that ascend -/
theorem put_comm {h : Hd} {a b : Addr} {x y : O} (n : a ≠ b) : put (put h a x) b y = put (put h b y) a x := by
  funext c
  unfold put
  by_cases e1 : c = b
  · rw [if_pos e1]
    by_cases e2 : c = a
    · exact absurd (e2.symm.trans e1) n
    · rw [if_neg e2, if_pos e1]
  · rw [if_neg e1]
    by_cases e2 : c = a
    · rw [if_pos e2, if_pos e2]
    · rw [if_neg e2, if_neg e2, if_neg e1]
theorem ints_app (xs ys : List Int) : intsD (xs ++ ys) = intsD xs ++ intsD ys := List.map_append
theorem ints_one (x : Int) : intsD [x] = [.v (.int x)] := rfl
def sp_law_spots : SpD := fun ds h Q _ => ds.length = 2 ∧ ∃ (p q : Addr) (cells : List Int) (m : Nat), ds = [.v (.ref p), .v (.int ((m : Int) + 1))] ∧ PoolAt h p q cells ∧ m ≤ 1000 ∧
  ∀ (l : Addr) (s : Int × Int × Int) (xs : List Int), h l = none → xs.length = m + 1 → xs.Pairwise (· < ·) → Q (.v (.ref l)) (put (put h p (poolO q s)) l (.lst (intsD xs)))
def rd_law_spots (E : ER) : SD :=
  dSeq (dAsg (dLst (dCons (dCall sp_law_number E (dCons (dVar 0) (dNil))) (dNil))) (nG 2))
  (dSeq (dFor (iRng1D (dCons (d2 pSub (dVar 1) (dC (.v (.int 1)))) (dNil))) (nG 3) (dDrop (dBM "list" mAppend (dVar 2) (dCons (d2 pAdd (d2 pAdd (d2 pIt (dVar 2) (d1 pNeg (dC (.v (.int 1))))) (dC (.v (.int 1)))) (dCB cAbs (dCons (dCall sp_law_number E (dCons (dVar 0) (dNil))) (dNil)))) (dNil)))))
  (dRet (dVar 2)))
abbrev N_law_spots : List Str := ["pool", "many", "found", "turn"]
theorem ok_law_spots : ∀ ds h Q E, sp_law_spots ds h Q E → rd_law_spots (fun x _ h' => E x h') (fin Q) (startD N_law_spots ds) h := by
  rintro ds h Q E ⟨_, p, q, cells, m, rfl, P, hm, ret⟩
  show rd_law_spots _ _ [some (.v (.ref p)), some (.v (.int ((m : Int) + 1))), none, none] h
  have hpn : h p ≠ none := by obtain ⟨s, e⟩ := P.st; rw [e]; exact fun z => by cases z
  unfold rd_law_spots
  try simp -dsimp -implicitDefEqProofs only [↓rds1, ↓rds2, ↓rds3, ↓rds4, ↓rds5, ↓rds6, ↓rds7, ↓rds8, ↓rds9, ↓rds10, ↓rds11, ↓rds12, List.set_cons_zero, List.set_cons_succ, ne_eq, not_false_eq_true, decide_eq_true_eq, Bool.or_true, Bool.or_false, Bool.true_or, Bool.false_or, Bool.and_true, Bool.true_and, Bool.and_false, Bool.false_and, Bool.not_true, Bool.not_false, reduceCtorEq, beq_self_eq_true, true_and, and_true]
  refine cl_i ⟨rfl, p, q, cells, rfl, P, fun k s => ?_⟩
  try simp -dsimp -implicitDefEqProofs only [↓rds1, ↓rds2, ↓rds3, ↓rds4, ↓rds5, ↓rds6, ↓rds7, ↓rds8, ↓rds9, ↓rds10, ↓rds11, ↓rds12, List.set_cons_zero, List.set_cons_succ, ne_eq, not_false_eq_true, decide_eq_true_eq, Bool.or_true, Bool.or_false, Bool.true_or, Bool.false_or, Bool.and_true, Bool.true_and, Bool.and_false, Bool.false_and, Bool.not_true, Bool.not_false, reduceCtorEq, beq_self_eq_true, true_and, and_true]
  refine al_i fun l hl => ?_
  have hlp : l ≠ p := fun e => by rw [e, put_same] at hl; cases hl
  rw [put_ne hlp] at hl
  have hlq : l ≠ q := fun e => by rw [e, P.cl] at hl; cases hl
  try simp -dsimp -implicitDefEqProofs only [↓rds1, ↓rds2, ↓rds3, ↓rds4, ↓rds5, ↓rds6, ↓rds7, ↓rds8, ↓rds9, ↓rds10, ↓rds11, ↓rds12, List.set_cons_zero, List.set_cons_succ, ne_eq, not_false_eq_true, decide_eq_true_eq, Bool.or_true, Bool.or_false, Bool.true_or, Bool.false_or, Bool.and_true, Bool.true_and, Bool.and_false, Bool.false_and, Bool.not_true, Bool.not_false, reduceCtorEq, beq_self_eq_true, true_and, and_true]
  refine ⟨by omega, loop_of (fun i σ h' => ∃ s v ys z, h' = put (put h p (poolO q s)) l (.lst (intsD (ys ++ [z]))) ∧ σ = [some (.v (.ref p)), some (.v (.int ((m : Int) + 1))), some (.v (.ref l)), v] ∧ ys.length = i ∧ (ys ++ [z]).Pairwise (· < ·)) ⟨s, none, [], k, rfl, rfl, rfl, List.pairwise_singleton _ _⟩ (fun _ _ _ _ _ => trivial) ?_ ?_⟩
  · rintro i x σ h' hx ⟨s, v, ys, z, rfl, rfl, hy, hp⟩ N hN
    obtain ⟨hi, rfl⟩ := rangeD_get hx
    have hi : i < m := by omega
    try simp -dsimp -implicitDefEqProofs only [↓rds1, ↓rds2, ↓rds3, ↓rds4, ↓rds5, ↓rds6, ↓rds7, ↓rds8, ↓rds9, ↓rds10, ↓rds11, ↓rds12, List.set_cons_zero, List.set_cons_succ, ne_eq, not_false_eq_true, decide_eq_true_eq, Bool.or_true, Bool.or_false, Bool.true_or, Bool.false_or, Bool.and_true, Bool.true_and, Bool.and_false, Bool.false_and, Bool.not_true, Bool.not_false, reduceCtorEq, beq_self_eq_true, true_and, and_true, ints_app, ints_one]
    have P' : PoolAt (put (put h p (poolO q s)) l (.lst (intsD ys ++ [.v (.int z)]))) p q cells := ⟨⟨s, by rw [put_ne hlp.symm, put_same]⟩, by rw [put_ne hlq.symm, put_ne P.ne]; exact P.cl, P.ne, P.ln⟩
    refine cl_i ⟨rfl, p, q, cells, rfl, P', fun k s' => ?_⟩
    rw [put_comm hlp, put_put]
    try simp -dsimp -implicitDefEqProofs only [↓rds1, ↓rds2, ↓rds3, ↓rds4, ↓rds5, ↓rds6, ↓rds7, ↓rds8, ↓rds9, ↓rds10, ↓rds11, ↓rds12, List.set_cons_zero, List.set_cons_succ, ne_eq, not_false_eq_true, decide_eq_true_eq, Bool.or_true, Bool.or_false, Bool.true_or, Bool.false_or, Bool.and_true, Bool.true_and, Bool.and_false, Bool.false_and, Bool.not_true, Bool.not_false, reduceCtorEq, beq_self_eq_true, true_and, and_true]
    refine ⟨?_, ?_⟩
    · have : (intsD ys ++ [D.v (.int z)]).length = i + 1 := by rw [List.length_append, len_intsD, hy]; rfl
      rw [this]
      exact Nat.lt_of_lt_of_le (show i + 1 < 10000 by omega) (by decide)
    refine hN _ _ ⟨s', _, ys ++ [z], z + 1 + (if k < 0 then -k else k), ?_, rfl, by rw [List.length_append, hy]; rfl, ?_⟩
    · rw [ints_app, ints_app, ints_one, ints_one]
    · rw [List.pairwise_append]
      refine ⟨hp, List.pairwise_singleton _ _, fun a ha b hb => ?_⟩
      obtain rfl := List.mem_singleton.mp hb
      have hk : 0 ≤ (if k < 0 then -k else k) := by split <;> omega
      rcases List.mem_append.mp ha with ha | ha
      · have := (List.pairwise_append.mp hp).2.2 a ha z (List.mem_singleton.mpr rfl)
        omega
      · obtain rfl := List.mem_singleton.mp ha
        omega
  · rintro σ h' ⟨s, v, ys, z, rfl, rfl, hy, hp⟩
    try simp -dsimp -implicitDefEqProofs only [↓rds1, ↓rds2, ↓rds3, ↓rds4, ↓rds5, ↓rds6, ↓rds7, ↓rds8, ↓rds9, ↓rds10, ↓rds11, ↓rds12, List.set_cons_zero, List.set_cons_succ, ne_eq, not_false_eq_true, decide_eq_true_eq, Bool.or_true, Bool.or_false, Bool.true_or, Bool.false_or, Bool.and_true, Bool.true_and, Bool.and_false, Bool.false_and, Bool.not_true, Bool.not_false, reduceCtorEq, beq_self_eq_true, true_and, and_true]
    refine finR (ret l s _ hl ?_ hp)
    have : (rangeD 0 ((m : Int) + 1 - 1).toNat).length = m := by unfold rangeD; rw [List.length_map, List.length_range]; omega
    rw [List.length_append, hy, this]
    rfl
end DL
/-! DLw: ways of pairs on lines and rings -/
namespace DL
open PySem L2
/-! the ways on a line -/
def sgn (i j : Int) : Int := if i < j then 0 else if i = j then 1 else 2
def sp_sign : SpD := fun ds h Q _ => ds.length = 2 ∧ ∃ i j : Int, ds = [.v (.int i), .v (.int j)] ∧ Q (.v (.int (sgn i j))) h
def rd_sign (E : ER) : SD :=
  dSeq (dIfS (dTest (d2 pLt (dVar 0) (dVar 1))) (dRet (dC (.v (.int 0)))) (dNext))
  (dRet (dIf (dTest (d2 pEqA (dVar 0) (dVar 1))) (dC (.v (.int 1))) (dC (.v (.int 2)))))
abbrev N_sign : List Str := ["one", "other"]
theorem ok_sign : ∀ ds h Q E, sp_sign ds h Q E → rd_sign (fun x _ h' => E x h') (fin Q) (startD N_sign ds) h := by
  rintro ds h Q E ⟨_, i, j, rfl, q⟩
  show rd_sign _ _ [some (.v (.int i)), some (.v (.int j))] h
  unfold rd_sign sgn at *
  try simp -dsimp -implicitDefEqProofs only [↓rds1, ↓rds2, ↓rds3, ↓rds4, ↓rds5, ↓rds6, ↓rds7, ↓rds8, ↓rds9, ↓rds10, ↓rds11, ↓rds12, List.set_cons_zero, List.set_cons_succ, ne_eq, not_false_eq_true, decide_eq_true_eq, Bool.or_true, Bool.or_false, Bool.true_or, Bool.false_or, Bool.and_true, Bool.true_and, Bool.and_false, Bool.false_and, Bool.not_true, Bool.not_false, reduceCtorEq, beq_self_eq_true, true_and, and_true]
  refine dIte_by (fun c => ?_) fun c => ?_
  · rw [if_pos c] at q
    try simp -dsimp -implicitDefEqProofs only [↓rds1, ↓rds2, ↓rds3, ↓rds4, ↓rds5, ↓rds6, ↓rds7, ↓rds8, ↓rds9, ↓rds10, ↓rds11, ↓rds12, List.set_cons_zero, List.set_cons_succ, ne_eq, not_false_eq_true, decide_eq_true_eq, Bool.or_true, Bool.or_false, Bool.true_or, Bool.false_or, Bool.and_true, Bool.true_and, Bool.and_false, Bool.false_and, Bool.not_true, Bool.not_false, reduceCtorEq, beq_self_eq_true, true_and, and_true]
    exact finR q
  · rw [if_neg c] at q
    try simp -dsimp -implicitDefEqProofs only [↓rds1, ↓rds2, ↓rds3, ↓rds4, ↓rds5, ↓rds6, ↓rds7, ↓rds8, ↓rds9, ↓rds10, ↓rds11, ↓rds12, List.set_cons_zero, List.set_cons_succ, ne_eq, not_false_eq_true, decide_eq_true_eq, Bool.or_true, Bool.or_false, Bool.true_or, Bool.false_or, Bool.and_true, Bool.true_and, Bool.and_false, Bool.false_and, Bool.not_true, Bool.not_false, reduceCtorEq, beq_self_eq_true, true_and, and_true]
    refine dIte_by (fun c => ?_) fun c => ?_
    · rw [if_pos c] at q
      exact finR q
    · rw [if_neg c] at q
      exact finR q
/-- the way of a pair against another one -/
def lw (a b c d : Int) : Str :=
  if b < c then "a" else if b = c then "m" else if d < a then "A" else if d = a then "M" else
  if a < c then (if b < d then "o" else if b = d then "E" else "W") else
  if a = c then (if b < d then "b" else if b = d then "s" else "B") else
  (if b < d then "w" else if b = d then "e" else "O")
def sp_line_way : SpD := fun ds h Q _ => ds.length = 2 ∧ ∃ a b c d : Int, ds = [.t [.v (.int a), .v (.int b)], .t [.v (.int c), .v (.int d)]] ∧ Q (.v (.str (lw a b c d))) h
def rd_line_way (E : ER) : SD :=
  dSeq (dIfS (dTest (d2 pLe (d2 pIt (dVar 0) (dC (.v (.int 1)))) (d2 pIt (dVar 1) (dC (.v (.int 0)))))) (dRet (d2 pIt (dC (.v (.str "am"))) (dCall sp_sign E (dCons (d2 pIt (dVar 0) (dC (.v (.int 1)))) (dCons (d2 pIt (dVar 1) (dC (.v (.int 0)))) (dNil)))))) (dNext))
  (dSeq (dIfS (dTest (d2 pGe (d2 pIt (dVar 0) (dC (.v (.int 0)))) (d2 pIt (dVar 1) (dC (.v (.int 1)))))) (dRet (d2 pIt (dC (.v (.str "MA"))) (d2 pSub (dCall sp_sign E (dCons (d2 pIt (dVar 0) (dC (.v (.int 0)))) (dCons (d2 pIt (dVar 1) (dC (.v (.int 1)))) (dNil)))) (dC (.v (.int 1)))))) (dNext))
  (dSeq (dAsg (dTup (dCons (dC (.v (.str "oEW"))) (dCons (dC (.v (.str "bsB"))) (dCons (dC (.v (.str "weO"))) (dNil))))) (nG 2))
  (dRet (d2 pIt (d2 pIt (dVar 2) (dCall sp_sign E (dCons (d2 pIt (dVar 0) (dC (.v (.int 0)))) (dCons (d2 pIt (dVar 1) (dC (.v (.int 0)))) (dNil))))) (dCall sp_sign E (dCons (d2 pIt (dVar 0) (dC (.v (.int 1)))) (dCons (d2 pIt (dVar 1) (dC (.v (.int 1)))) (dNil))))))))
abbrev N_line_way : List Str := ["first", "second", "rows"]
theorem ok_line_way : ∀ ds h Q E, sp_line_way ds h Q E → rd_line_way (fun x _ h' => E x h') (fin Q) (startD N_line_way ds) h := by
  rintro ds h Q E ⟨_, a, b, c, d, rfl, q⟩
  show rd_line_way _ _ [some (.t [.v (.int a), .v (.int b)]), some (.t [.v (.int c), .v (.int d)]), none] h
  unfold rd_line_way lw at *
  try simp -dsimp -implicitDefEqProofs only [↓rds1, ↓rds2, ↓rds3, ↓rds4, ↓rds5, ↓rds6, ↓rds7, ↓rds8, ↓rds9, ↓rds10, ↓rds11, ↓rds12, List.set_cons_zero, List.set_cons_succ, ne_eq, not_false_eq_true, decide_eq_true_eq, Bool.or_true, Bool.or_false, Bool.true_or, Bool.false_or, Bool.and_true, Bool.true_and, Bool.and_false, Bool.false_and, Bool.not_true, Bool.not_false, reduceCtorEq, beq_self_eq_true, true_and, and_true]
  have pick : ∀ (z : Str) (l : List Nat) (i : Int) (n : Nat) (w : Str) (h' : Hd) (Q' : KD), z.length ≤ sizeLine → z.cps.toList = l → atI l i = some n → (⟨#[n]⟩ : Str) = w → Q' (.v (.str w)) h' → pIt (.v (.str z)) (.v (.int i)) h' Q' := by
    rintro z l i n w h' Q' hz rfl e rfl q
    show z.length ≤ sizeLine ∧ _
    rw [e]
    exact ⟨hz, q⟩
  refine dIte_by (fun k => ?_) fun k => ?_
  · try simp -dsimp -implicitDefEqProofs only [↓rds1, ↓rds2, ↓rds3, ↓rds4, ↓rds5, ↓rds6, ↓rds7, ↓rds8, ↓rds9, ↓rds10, ↓rds11, ↓rds12, List.set_cons_zero, List.set_cons_succ, ne_eq, not_false_eq_true, decide_eq_true_eq, Bool.or_true, Bool.or_false, Bool.true_or, Bool.false_or, Bool.and_true, Bool.true_and, Bool.and_false, Bool.false_and, Bool.not_true, Bool.not_false, reduceCtorEq, beq_self_eq_true, true_and, and_true]
    refine cl_i ⟨rfl, _, _, rfl, ?_⟩
    by_cases k1 : b < c
    · rw [if_pos k1] at q
      rw [show sgn b c = 0 from if_pos k1]
      exact pick _ [97, 109] _ 97 "a" _ _ (by decide) (by decide) rfl (by decide) (finR q)
    · have k2 : b = c := by omega
      rw [if_neg k1, if_pos k2] at q
      rw [show sgn b c = 1 from by unfold sgn; rw [if_neg k1, if_pos k2]]
      exact pick _ [97, 109] _ 109 "m" _ _ (by decide) (by decide) rfl (by decide) (finR q)
  · have k1 : ¬ b < c := by omega
    have k2 : ¬ b = c := by omega
    rw [if_neg k1, if_neg k2] at q
    try simp -dsimp -implicitDefEqProofs only [↓rds1, ↓rds2, ↓rds3, ↓rds4, ↓rds5, ↓rds6, ↓rds7, ↓rds8, ↓rds9, ↓rds10, ↓rds11, ↓rds12, List.set_cons_zero, List.set_cons_succ, ne_eq, not_false_eq_true, decide_eq_true_eq, Bool.or_true, Bool.or_false, Bool.true_or, Bool.false_or, Bool.and_true, Bool.true_and, Bool.and_false, Bool.false_and, Bool.not_true, Bool.not_false, reduceCtorEq, beq_self_eq_true, true_and, and_true]
    refine dIte_by (fun k => ?_) fun k => ?_
    · try simp -dsimp -implicitDefEqProofs only [↓rds1, ↓rds2, ↓rds3, ↓rds4, ↓rds5, ↓rds6, ↓rds7, ↓rds8, ↓rds9, ↓rds10, ↓rds11, ↓rds12, List.set_cons_zero, List.set_cons_succ, ne_eq, not_false_eq_true, decide_eq_true_eq, Bool.or_true, Bool.or_false, Bool.true_or, Bool.false_or, Bool.and_true, Bool.true_and, Bool.and_false, Bool.false_and, Bool.not_true, Bool.not_false, reduceCtorEq, beq_self_eq_true, true_and, and_true]
      refine cl_i ⟨rfl, _, _, rfl, ?_⟩
      by_cases k1 : a = d
      · rw [if_neg (by omega), if_pos k1.symm] at q
        rw [show sgn a d = 1 from by unfold sgn; rw [if_neg (by omega), if_pos k1]]
        exact pick "MA" [77, 65] (1 - 1) 77 "M" _ _ (by decide) (by decide) rfl (by decide) (finR q)
      · rw [if_pos (by omega)] at q
        rw [show sgn a d = 2 from by unfold sgn; rw [if_neg (by omega), if_neg (by omega)]]
        exact pick "MA" [77, 65] (2 - 1) 65 "A" _ _ (by decide) (by decide) rfl (by decide) (finR q)
    · rw [if_neg (by omega), if_neg (by omega)] at q
      try simp -dsimp -implicitDefEqProofs only [↓rds1, ↓rds2, ↓rds3, ↓rds4, ↓rds5, ↓rds6, ↓rds7, ↓rds8, ↓rds9, ↓rds10, ↓rds11, ↓rds12, List.set_cons_zero, List.set_cons_succ, ne_eq, not_false_eq_true, decide_eq_true_eq, Bool.or_true, Bool.or_false, Bool.true_or, Bool.false_or, Bool.and_true, Bool.true_and, Bool.and_false, Bool.false_and, Bool.not_true, Bool.not_false, reduceCtorEq, beq_self_eq_true, true_and, and_true]
      refine cl_i ⟨rfl, _, _, rfl, ?_⟩
      have s0 : ∀ i j : Int, i < j → sgn i j = 0 := fun i j h => if_pos h
      have s1 : ∀ i j : Int, i = j → sgn i j = 1 := fun i j h => by unfold sgn; rw [if_neg (by omega), if_pos h]
      have s2 : ∀ i j : Int, j < i → sgn i j = 2 := fun i j h => by unfold sgn; rw [if_neg (by omega), if_neg (by omega)]
      rcases Int.lt_trichotomy a c with k3 | k3 | k3
      · rw [s0 _ _ k3]
        try simp -dsimp -implicitDefEqProofs only [↓rds1, ↓rds2, ↓rds3, ↓rds4, ↓rds5, ↓rds6, ↓rds7, ↓rds8, ↓rds9, ↓rds10, ↓rds11, ↓rds12, List.set_cons_zero, List.set_cons_succ, ne_eq, not_false_eq_true, decide_eq_true_eq, Bool.or_true, Bool.or_false, Bool.true_or, Bool.false_or, Bool.and_true, Bool.true_and, Bool.and_false, Bool.false_and, Bool.not_true, Bool.not_false, reduceCtorEq, beq_self_eq_true, true_and, and_true]
        refine cl_i ⟨rfl, _, _, rfl, ?_⟩
        rw [if_pos k3] at q
        rcases Int.lt_trichotomy b d with k4 | k4 | k4
        · rw [if_pos k4] at q
          rw [s0 _ _ k4]
          exact pick _ [111, 69, 87] _ 111 "o" _ _ (by decide) (by decide) rfl (by decide) (finR q)
        · rw [if_neg (by omega), if_pos k4] at q
          rw [s1 _ _ k4]
          exact pick _ [111, 69, 87] _ 69 "E" _ _ (by decide) (by decide) rfl (by decide) (finR q)
        · rw [if_neg (by omega), if_neg (by omega)] at q
          rw [s2 _ _ k4]
          exact pick _ [111, 69, 87] _ 87 "W" _ _ (by decide) (by decide) rfl (by decide) (finR q)
      · rw [s1 _ _ k3]
        try simp -dsimp -implicitDefEqProofs only [↓rds1, ↓rds2, ↓rds3, ↓rds4, ↓rds5, ↓rds6, ↓rds7, ↓rds8, ↓rds9, ↓rds10, ↓rds11, ↓rds12, List.set_cons_zero, List.set_cons_succ, ne_eq, not_false_eq_true, decide_eq_true_eq, Bool.or_true, Bool.or_false, Bool.true_or, Bool.false_or, Bool.and_true, Bool.true_and, Bool.and_false, Bool.false_and, Bool.not_true, Bool.not_false, reduceCtorEq, beq_self_eq_true, true_and, and_true]
        refine cl_i ⟨rfl, _, _, rfl, ?_⟩
        rw [if_neg (by omega), if_pos k3] at q
        rcases Int.lt_trichotomy b d with k4 | k4 | k4
        · rw [if_pos k4] at q
          rw [s0 _ _ k4]
          exact pick _ [98, 115, 66] _ 98 "b" _ _ (by decide) (by decide) rfl (by decide) (finR q)
        · rw [if_neg (by omega), if_pos k4] at q
          rw [s1 _ _ k4]
          exact pick _ [98, 115, 66] _ 115 "s" _ _ (by decide) (by decide) rfl (by decide) (finR q)
        · rw [if_neg (by omega), if_neg (by omega)] at q
          rw [s2 _ _ k4]
          exact pick _ [98, 115, 66] _ 66 "B" _ _ (by decide) (by decide) rfl (by decide) (finR q)
      · rw [s2 _ _ k3]
        try simp -dsimp -implicitDefEqProofs only [↓rds1, ↓rds2, ↓rds3, ↓rds4, ↓rds5, ↓rds6, ↓rds7, ↓rds8, ↓rds9, ↓rds10, ↓rds11, ↓rds12, List.set_cons_zero, List.set_cons_succ, ne_eq, not_false_eq_true, decide_eq_true_eq, Bool.or_true, Bool.or_false, Bool.true_or, Bool.false_or, Bool.and_true, Bool.true_and, Bool.and_false, Bool.false_and, Bool.not_true, Bool.not_false, reduceCtorEq, beq_self_eq_true, true_and, and_true]
        refine cl_i ⟨rfl, _, _, rfl, ?_⟩
        rw [if_neg (by omega), if_neg (by omega)] at q
        rcases Int.lt_trichotomy b d with k4 | k4 | k4
        · rw [if_pos k4] at q
          rw [s0 _ _ k4]
          exact pick _ [119, 101, 79] _ 119 "w" _ _ (by decide) (by decide) rfl (by decide) (finR q)
        · rw [if_neg (by omega), if_pos k4] at q
          rw [s1 _ _ k4]
          exact pick _ [119, 101, 79] _ 101 "e" _ _ (by decide) (by decide) rfl (by decide) (finR q)
        · rw [if_neg (by omega), if_neg (by omega)] at q
          rw [s2 _ _ k4]
          exact pick _ [119, 101, 79] _ 79 "O" _ _ (by decide) (by decide) rfl (by decide) (finR q)
/-- the law's own way -/
def sp_law_line_way : SpD := fun ds h Q _ => ds.length = 2 ∧ ∃ a b c d : Int, ds = [.t [.v (.int a), .v (.int b)], .t [.v (.int c), .v (.int d)]] ∧ Q (.v (.str (lw a b c d))) h
def rd_law_line_way (E : ER) : SD :=
  dSeq (dIfS (dTest (d2 pLt (d2 pIt (dVar 0) (dC (.v (.int 1)))) (d2 pIt (dVar 1) (dC (.v (.int 0)))))) (dRet (dC (.v (.str "a")))) (dNext))
  (dSeq (dIfS (dTest (d2 pEqA (d2 pIt (dVar 0) (dC (.v (.int 1)))) (d2 pIt (dVar 1) (dC (.v (.int 0)))))) (dRet (dC (.v (.str "m")))) (dNext))
  (dSeq (dIfS (dTest (d2 pLt (d2 pIt (dVar 1) (dC (.v (.int 1)))) (d2 pIt (dVar 0) (dC (.v (.int 0)))))) (dRet (dC (.v (.str "A")))) (dNext))
  (dSeq (dIfS (dTest (d2 pEqA (d2 pIt (dVar 1) (dC (.v (.int 1)))) (d2 pIt (dVar 0) (dC (.v (.int 0)))))) (dRet (dC (.v (.str "M")))) (dNext))
  (dSeq (dIfS (dTest (d2 pEqA (d2 pIt (dVar 0) (dC (.v (.int 0)))) (d2 pIt (dVar 1) (dC (.v (.int 0)))))) (dSeq (dIfS (dTest (d2 pEqA (d2 pIt (dVar 0) (dC (.v (.int 1)))) (d2 pIt (dVar 1) (dC (.v (.int 1)))))) (dRet (dC (.v (.str "s")))) (dNext))
  (dRet (dIf (dTest (d2 pLt (d2 pIt (dVar 0) (dC (.v (.int 1)))) (d2 pIt (dVar 1) (dC (.v (.int 1)))))) (dC (.v (.str "b"))) (dC (.v (.str "B")))))) (dNext))
  (dSeq (dIfS (dTest (d2 pEqA (d2 pIt (dVar 0) (dC (.v (.int 1)))) (d2 pIt (dVar 1) (dC (.v (.int 1)))))) (dRet (dIf (dTest (d2 pLt (d2 pIt (dVar 0) (dC (.v (.int 0)))) (d2 pIt (dVar 1) (dC (.v (.int 0)))))) (dC (.v (.str "E"))) (dC (.v (.str "e"))))) (dNext))
  (dSeq (dIfS (dTest (d2 pLt (d2 pIt (dVar 0) (dC (.v (.int 0)))) (d2 pIt (dVar 1) (dC (.v (.int 0)))))) (dRet (dIf (dTest (d2 pLt (d2 pIt (dVar 0) (dC (.v (.int 1)))) (d2 pIt (dVar 1) (dC (.v (.int 1)))))) (dC (.v (.str "o"))) (dC (.v (.str "W"))))) (dNext))
  (dRet (dIf (dTest (d2 pGt (d2 pIt (dVar 0) (dC (.v (.int 1)))) (d2 pIt (dVar 1) (dC (.v (.int 1)))))) (dC (.v (.str "O"))) (dC (.v (.str "w")))))))))))
abbrev N_law_line_way : List Str := ["first", "second"]
theorem ok_law_line_way : ∀ ds h Q E, sp_law_line_way ds h Q E → rd_law_line_way (fun x _ h' => E x h') (fin Q) (startD N_law_line_way ds) h := by
  rintro ds h Q E ⟨_, a, b, c, d, rfl, q⟩
  show rd_law_line_way _ _ [some (.t [.v (.int a), .v (.int b)]), some (.t [.v (.int c), .v (.int d)])] h
  unfold rd_law_line_way lw at *
  try simp -dsimp -implicitDefEqProofs only [↓rds1, ↓rds2, ↓rds3, ↓rds4, ↓rds5, ↓rds6, ↓rds7, ↓rds8, ↓rds9, ↓rds10, ↓rds11, ↓rds12, List.set_cons_zero, List.set_cons_succ, ne_eq, not_false_eq_true, decide_eq_true_eq, Bool.or_true, Bool.or_false, Bool.true_or, Bool.false_or, Bool.and_true, Bool.true_and, Bool.and_false, Bool.false_and, Bool.not_true, Bool.not_false, reduceCtorEq, beq_self_eq_true, true_and, and_true]
  refine dIte_by (fun k => ?_) fun k => ?_
  · rw [if_pos k] at q
    try simp -dsimp -implicitDefEqProofs only [↓rds1, ↓rds2, ↓rds3, ↓rds4, ↓rds5, ↓rds6, ↓rds7, ↓rds8, ↓rds9, ↓rds10, ↓rds11, ↓rds12, List.set_cons_zero, List.set_cons_succ, ne_eq, not_false_eq_true, decide_eq_true_eq, Bool.or_true, Bool.or_false, Bool.true_or, Bool.false_or, Bool.and_true, Bool.true_and, Bool.and_false, Bool.false_and, Bool.not_true, Bool.not_false, reduceCtorEq, beq_self_eq_true, true_and, and_true]
    exact finR q
  rw [if_neg k] at q
  try simp -dsimp -implicitDefEqProofs only [↓rds1, ↓rds2, ↓rds3, ↓rds4, ↓rds5, ↓rds6, ↓rds7, ↓rds8, ↓rds9, ↓rds10, ↓rds11, ↓rds12, List.set_cons_zero, List.set_cons_succ, ne_eq, not_false_eq_true, decide_eq_true_eq, Bool.or_true, Bool.or_false, Bool.true_or, Bool.false_or, Bool.and_true, Bool.true_and, Bool.and_false, Bool.false_and, Bool.not_true, Bool.not_false, reduceCtorEq, beq_self_eq_true, true_and, and_true]
  refine dIte_by (fun k => ?_) fun k => ?_
  · rw [if_pos k] at q
    try simp -dsimp -implicitDefEqProofs only [↓rds1, ↓rds2, ↓rds3, ↓rds4, ↓rds5, ↓rds6, ↓rds7, ↓rds8, ↓rds9, ↓rds10, ↓rds11, ↓rds12, List.set_cons_zero, List.set_cons_succ, ne_eq, not_false_eq_true, decide_eq_true_eq, Bool.or_true, Bool.or_false, Bool.true_or, Bool.false_or, Bool.and_true, Bool.true_and, Bool.and_false, Bool.false_and, Bool.not_true, Bool.not_false, reduceCtorEq, beq_self_eq_true, true_and, and_true]
    exact finR q
  rw [if_neg k] at q
  try simp -dsimp -implicitDefEqProofs only [↓rds1, ↓rds2, ↓rds3, ↓rds4, ↓rds5, ↓rds6, ↓rds7, ↓rds8, ↓rds9, ↓rds10, ↓rds11, ↓rds12, List.set_cons_zero, List.set_cons_succ, ne_eq, not_false_eq_true, decide_eq_true_eq, Bool.or_true, Bool.or_false, Bool.true_or, Bool.false_or, Bool.and_true, Bool.true_and, Bool.and_false, Bool.false_and, Bool.not_true, Bool.not_false, reduceCtorEq, beq_self_eq_true, true_and, and_true]
  refine dIte_by (fun k => ?_) fun k => ?_
  · rw [if_pos k] at q
    try simp -dsimp -implicitDefEqProofs only [↓rds1, ↓rds2, ↓rds3, ↓rds4, ↓rds5, ↓rds6, ↓rds7, ↓rds8, ↓rds9, ↓rds10, ↓rds11, ↓rds12, List.set_cons_zero, List.set_cons_succ, ne_eq, not_false_eq_true, decide_eq_true_eq, Bool.or_true, Bool.or_false, Bool.true_or, Bool.false_or, Bool.and_true, Bool.true_and, Bool.and_false, Bool.false_and, Bool.not_true, Bool.not_false, reduceCtorEq, beq_self_eq_true, true_and, and_true]
    exact finR q
  rw [if_neg k] at q
  try simp -dsimp -implicitDefEqProofs only [↓rds1, ↓rds2, ↓rds3, ↓rds4, ↓rds5, ↓rds6, ↓rds7, ↓rds8, ↓rds9, ↓rds10, ↓rds11, ↓rds12, List.set_cons_zero, List.set_cons_succ, ne_eq, not_false_eq_true, decide_eq_true_eq, Bool.or_true, Bool.or_false, Bool.true_or, Bool.false_or, Bool.and_true, Bool.true_and, Bool.and_false, Bool.false_and, Bool.not_true, Bool.not_false, reduceCtorEq, beq_self_eq_true, true_and, and_true]
  refine dIte_by (fun k => ?_) fun k => ?_
  · rw [if_pos k] at q
    try simp -dsimp -implicitDefEqProofs only [↓rds1, ↓rds2, ↓rds3, ↓rds4, ↓rds5, ↓rds6, ↓rds7, ↓rds8, ↓rds9, ↓rds10, ↓rds11, ↓rds12, List.set_cons_zero, List.set_cons_succ, ne_eq, not_false_eq_true, decide_eq_true_eq, Bool.or_true, Bool.or_false, Bool.true_or, Bool.false_or, Bool.and_true, Bool.true_and, Bool.and_false, Bool.false_and, Bool.not_true, Bool.not_false, reduceCtorEq, beq_self_eq_true, true_and, and_true]
    exact finR q
  rw [if_neg k] at q
  try simp -dsimp -implicitDefEqProofs only [↓rds1, ↓rds2, ↓rds3, ↓rds4, ↓rds5, ↓rds6, ↓rds7, ↓rds8, ↓rds9, ↓rds10, ↓rds11, ↓rds12, List.set_cons_zero, List.set_cons_succ, ne_eq, not_false_eq_true, decide_eq_true_eq, Bool.or_true, Bool.or_false, Bool.true_or, Bool.false_or, Bool.and_true, Bool.true_and, Bool.and_false, Bool.false_and, Bool.not_true, Bool.not_false, reduceCtorEq, beq_self_eq_true, true_and, and_true]
  refine dIte_by (fun k => ?_) fun k => ?_
  · rw [if_neg (by omega), if_pos k] at q
    try simp -dsimp -implicitDefEqProofs only [↓rds1, ↓rds2, ↓rds3, ↓rds4, ↓rds5, ↓rds6, ↓rds7, ↓rds8, ↓rds9, ↓rds10, ↓rds11, ↓rds12, List.set_cons_zero, List.set_cons_succ, ne_eq, not_false_eq_true, decide_eq_true_eq, Bool.or_true, Bool.or_false, Bool.true_or, Bool.false_or, Bool.and_true, Bool.true_and, Bool.and_false, Bool.false_and, Bool.not_true, Bool.not_false, reduceCtorEq, beq_self_eq_true, true_and, and_true]
    refine dIte_by (fun k => ?_) fun k => ?_
    · rw [if_neg (by omega), if_pos k] at q
      try simp -dsimp -implicitDefEqProofs only [↓rds1, ↓rds2, ↓rds3, ↓rds4, ↓rds5, ↓rds6, ↓rds7, ↓rds8, ↓rds9, ↓rds10, ↓rds11, ↓rds12, List.set_cons_zero, List.set_cons_succ, ne_eq, not_false_eq_true, decide_eq_true_eq, Bool.or_true, Bool.or_false, Bool.true_or, Bool.false_or, Bool.and_true, Bool.true_and, Bool.and_false, Bool.false_and, Bool.not_true, Bool.not_false, reduceCtorEq, beq_self_eq_true, true_and, and_true]
      exact finR q
    try simp -dsimp -implicitDefEqProofs only [↓rds1, ↓rds2, ↓rds3, ↓rds4, ↓rds5, ↓rds6, ↓rds7, ↓rds8, ↓rds9, ↓rds10, ↓rds11, ↓rds12, List.set_cons_zero, List.set_cons_succ, ne_eq, not_false_eq_true, decide_eq_true_eq, Bool.or_true, Bool.or_false, Bool.true_or, Bool.false_or, Bool.and_true, Bool.true_and, Bool.and_false, Bool.false_and, Bool.not_true, Bool.not_false, reduceCtorEq, beq_self_eq_true, true_and, and_true]
    refine dIte_by (fun k => ?_) fun k => ?_
    · rw [if_pos k] at q
      exact finR q
    · rw [if_neg k, if_neg (by omega)] at q
      exact finR q
  try simp -dsimp -implicitDefEqProofs only [↓rds1, ↓rds2, ↓rds3, ↓rds4, ↓rds5, ↓rds6, ↓rds7, ↓rds8, ↓rds9, ↓rds10, ↓rds11, ↓rds12, List.set_cons_zero, List.set_cons_succ, ne_eq, not_false_eq_true, decide_eq_true_eq, Bool.or_true, Bool.or_false, Bool.true_or, Bool.false_or, Bool.and_true, Bool.true_and, Bool.and_false, Bool.false_and, Bool.not_true, Bool.not_false, reduceCtorEq, beq_self_eq_true, true_and, and_true]
  refine dIte_by (fun k => ?_) fun k => ?_
  · try simp -dsimp -implicitDefEqProofs only [↓rds1, ↓rds2, ↓rds3, ↓rds4, ↓rds5, ↓rds6, ↓rds7, ↓rds8, ↓rds9, ↓rds10, ↓rds11, ↓rds12, List.set_cons_zero, List.set_cons_succ, ne_eq, not_false_eq_true, decide_eq_true_eq, Bool.or_true, Bool.or_false, Bool.true_or, Bool.false_or, Bool.and_true, Bool.true_and, Bool.and_false, Bool.false_and, Bool.not_true, Bool.not_false, reduceCtorEq, beq_self_eq_true, true_and, and_true]
    refine dIte_by (fun k => ?_) fun k => ?_
    · rw [if_pos k, if_neg (by omega), if_pos (by omega)] at q
      exact finR q
    · rw [if_neg k, if_neg (by omega), if_neg (by omega), if_pos (by omega)] at q
      exact finR q
  try simp -dsimp -implicitDefEqProofs only [↓rds1, ↓rds2, ↓rds3, ↓rds4, ↓rds5, ↓rds6, ↓rds7, ↓rds8, ↓rds9, ↓rds10, ↓rds11, ↓rds12, List.set_cons_zero, List.set_cons_succ, ne_eq, not_false_eq_true, decide_eq_true_eq, Bool.or_true, Bool.or_false, Bool.true_or, Bool.false_or, Bool.and_true, Bool.true_and, Bool.and_false, Bool.false_and, Bool.not_true, Bool.not_false, reduceCtorEq, beq_self_eq_true, true_and, and_true]
  refine dIte_by (fun k => ?_) fun k => ?_
  · rw [if_pos k] at q
    try simp -dsimp -implicitDefEqProofs only [↓rds1, ↓rds2, ↓rds3, ↓rds4, ↓rds5, ↓rds6, ↓rds7, ↓rds8, ↓rds9, ↓rds10, ↓rds11, ↓rds12, List.set_cons_zero, List.set_cons_succ, ne_eq, not_false_eq_true, decide_eq_true_eq, Bool.or_true, Bool.or_false, Bool.true_or, Bool.false_or, Bool.and_true, Bool.true_and, Bool.and_false, Bool.false_and, Bool.not_true, Bool.not_false, reduceCtorEq, beq_self_eq_true, true_and, and_true]
    refine dIte_by (fun k => ?_) fun k => ?_
    · rw [if_pos k] at q
      exact finR q
    · rw [if_neg k, if_neg (by omega)] at q
      exact finR q
  rw [if_neg k, if_neg (by omega)] at q
  try simp -dsimp -implicitDefEqProofs only [↓rds1, ↓rds2, ↓rds3, ↓rds4, ↓rds5, ↓rds6, ↓rds7, ↓rds8, ↓rds9, ↓rds10, ↓rds11, ↓rds12, List.set_cons_zero, List.set_cons_succ, ne_eq, not_false_eq_true, decide_eq_true_eq, Bool.or_true, Bool.or_false, Bool.true_or, Bool.false_or, Bool.and_true, Bool.true_and, Bool.and_false, Bool.false_and, Bool.not_true, Bool.not_false, reduceCtorEq, beq_self_eq_true, true_and, and_true]
  refine dIte_by (fun k => ?_) fun k => ?_
  · rw [if_neg (by omega), if_neg (by omega)] at q
    exact finR q
  · rw [if_pos (by omega)] at q
    exact finR q
/-! ### order on a ring, from a on -/
def cyl (a u v : Int) : Bool := decide ((a ≤ u ∧ a ≤ v ∧ u < v) ∨ (a ≤ u ∧ v < a) ∨ (u < a ∧ v < a ∧ u < v))
def pl (a b x : Int) : Str := if x = a then "b" else if cyl a x b = true then "i" else if x = b then "e" else "o"
def lets : List Str := ["b", "i", "e", "o"]
def joinW (p q : Str) (back : Bool) : Str := if p = "i" ∧ q = "i" ∧ back = true then "II" else if p = "o" ∧ q = "o" ∧ back = true then "OO" else p ++ q
def cw (a b c d : Int) : Str := joinW (pl a b c) (pl a b d) (cyl a d c)
theorem pl_mem (a b x : Int) : pl a b x ∈ lets := by
  unfold pl
  split
  · decide
  split
  · decide
  split
  · decide
  · decide
/-- a map that keeps the order keeps the way -/
theorem cw_mono {f : Int → Int} {a b c d : Int} (h : ∀ x y, x ∈ [a, b, c, d] → y ∈ [a, b, c, d] → (f x < f y ↔ x < y)) : cw (f a) (f b) (f c) (f d) = cw a b c d := by
  have e : ∀ x y, x ∈ [a, b, c, d] → y ∈ [a, b, c, d] → (f x = f y ↔ x = y) := fun x y hx hy => by
    have h1 := h x y hx hy
    have h2 := h y x hy hx
    omega
  have l : ∀ x y, x ∈ [a, b, c, d] → y ∈ [a, b, c, d] → (f x ≤ f y ↔ x ≤ y) := fun x y hx hy => by
    have h2 := h y x hy hx
    omega
  have ma : a ∈ [a, b, c, d] := by simp
  have mb : b ∈ [a, b, c, d] := by simp
  have mc : c ∈ [a, b, c, d] := by simp
  have md : d ∈ [a, b, c, d] := by simp
  have cy : ∀ x y, x ∈ [a, b, c, d] → y ∈ [a, b, c, d] → cyl (f a) (f x) (f y) = cyl a x y := fun x y hx hy => by
    unfold cyl
    rw [decide_eq_decide]
    rw [l a x ma hx, l a y ma hy, h x y hx hy, h y a hy ma, h x a hx ma]
  have p : ∀ x, x ∈ [a, b, c, d] → pl (f a) (f b) (f x) = pl a b x := fun x hx => by
    unfold pl
    rw [cy x b hx mb]
    simp only [e x a hx ma, e x b hx mb]
  unfold cw
  rw [p c mc, p d md, cy d c md mc]
/-- places by distances -/
def plc (e x : Int) : Str := if x = 0 then "b" else if x < e then "i" else if x = e then "e" else "o"
def rwy (e x y : Int) : Str := joinW (plc e x) (plc e y) (decide (y < x))
theorem rwy_cw {a b c d e x y : Int} (x0 : x = 0 ↔ c = a) (y0 : y = 0 ↔ d = a) (xl : x < e ↔ cyl a c b = true) (yl : y < e ↔ cyl a d b = true) (xe : x = e ↔ c = b) (ye : y = e ↔ d = b) (yx : y < x ↔ cyl a d c = true) : rwy e x y = cw a b c d := by
  unfold rwy cw plc pl
  simp only [x0, y0, xl, yl, xe, ye, yx, Bool.decide_eq_true]
/-! ### turned, place, ring_way -/
def trn (s z m : Int) : Int := if s ≤ m then m - s else m - s + z
def sp_turned : SpD := fun ds h Q _ => ds.length = 3 ∧ ∃ s z m : Int, ds = [.v (.int s), .v (.int z), .v (.int m)] ∧ Q (.v (.int (trn s z m))) h
def rd_turned (E : ER) : SD :=
  dSeq (dIfS (dTest (d2 pGe (dVar 2) (dVar 0))) (dRet (d2 pSub (dVar 2) (dVar 0))) (dNext))
  (dRet (d2 pAdd (d2 pSub (dVar 2) (dVar 0)) (dVar 1)))
abbrev N_turned : List Str := ["start", "size", "moment"]
theorem ok_turned : ∀ ds h Q E, sp_turned ds h Q E → rd_turned (fun x _ h' => E x h') (fin Q) (startD N_turned ds) h := by
  rintro ds h Q E ⟨_, s, z, m, rfl, q⟩
  show rd_turned _ _ [some (.v (.int s)), some (.v (.int z)), some (.v (.int m))] h
  unfold rd_turned
  unfold trn at q
  try simp -dsimp -implicitDefEqProofs only [↓rds1, ↓rds2, ↓rds3, ↓rds4, ↓rds5, ↓rds6, ↓rds7, ↓rds8, ↓rds9, ↓rds10, ↓rds11, ↓rds12, List.set_cons_zero, List.set_cons_succ, ne_eq, not_false_eq_true, decide_eq_true_eq, Bool.or_true, Bool.or_false, Bool.true_or, Bool.false_or, Bool.and_true, Bool.true_and, Bool.and_false, Bool.false_and, Bool.not_true, Bool.not_false, reduceCtorEq, beq_self_eq_true, true_and, and_true]
  refine dIte_by (fun c => ?_) fun c => ?_
  · rw [if_pos c] at q
    try simp -dsimp -implicitDefEqProofs only [↓rds1, ↓rds2, ↓rds3, ↓rds4, ↓rds5, ↓rds6, ↓rds7, ↓rds8, ↓rds9, ↓rds10, ↓rds11, ↓rds12, List.set_cons_zero, List.set_cons_succ, ne_eq, not_false_eq_true, decide_eq_true_eq, Bool.or_true, Bool.or_false, Bool.true_or, Bool.false_or, Bool.and_true, Bool.true_and, Bool.and_false, Bool.false_and, Bool.not_true, Bool.not_false, reduceCtorEq, beq_self_eq_true, true_and, and_true]
    exact finR q
  · rw [if_neg c] at q
    try simp -dsimp -implicitDefEqProofs only [↓rds1, ↓rds2, ↓rds3, ↓rds4, ↓rds5, ↓rds6, ↓rds7, ↓rds8, ↓rds9, ↓rds10, ↓rds11, ↓rds12, List.set_cons_zero, List.set_cons_succ, ne_eq, not_false_eq_true, decide_eq_true_eq, Bool.or_true, Bool.or_false, Bool.true_or, Bool.false_or, Bool.and_true, Bool.true_and, Bool.and_false, Bool.false_and, Bool.not_true, Bool.not_false, reduceCtorEq, beq_self_eq_true, true_and, and_true]
    exact finR q
def sp_place : SpD := fun ds h Q _ => ds.length = 2 ∧ ∃ e x : Int, ds = [.v (.int e), .v (.int x)] ∧ Q (.v (.str (plc e x))) h
def rd_place (E : ER) : SD :=
  dSeq (dIfS (dTest (d2 pEqA (dVar 1) (dC (.v (.int 0))))) (dRet (dC (.v (.str "b")))) (dNext))
  (dSeq (dIfS (dTest (d2 pLt (dVar 1) (dVar 0))) (dRet (dC (.v (.str "i")))) (dNext))
  (dRet (dIf (dTest (d2 pEqA (dVar 1) (dVar 0))) (dC (.v (.str "e"))) (dC (.v (.str "o"))))))
abbrev N_place : List Str := ["end", "moment"]
theorem ok_place : ∀ ds h Q E, sp_place ds h Q E → rd_place (fun x _ h' => E x h') (fin Q) (startD N_place ds) h := by
  rintro ds h Q E ⟨_, e, x, rfl, q⟩
  show rd_place _ _ [some (.v (.int e)), some (.v (.int x))] h
  unfold rd_place
  unfold plc at q
  try simp -dsimp -implicitDefEqProofs only [↓rds1, ↓rds2, ↓rds3, ↓rds4, ↓rds5, ↓rds6, ↓rds7, ↓rds8, ↓rds9, ↓rds10, ↓rds11, ↓rds12, List.set_cons_zero, List.set_cons_succ, ne_eq, not_false_eq_true, decide_eq_true_eq, Bool.or_true, Bool.or_false, Bool.true_or, Bool.false_or, Bool.and_true, Bool.true_and, Bool.and_false, Bool.false_and, Bool.not_true, Bool.not_false, reduceCtorEq, beq_self_eq_true, true_and, and_true]
  refine dIte_by (fun c => ?_) fun c => ?_
  · rw [if_pos c] at q
    try simp -dsimp -implicitDefEqProofs only [↓rds1, ↓rds2, ↓rds3, ↓rds4, ↓rds5, ↓rds6, ↓rds7, ↓rds8, ↓rds9, ↓rds10, ↓rds11, ↓rds12, List.set_cons_zero, List.set_cons_succ, ne_eq, not_false_eq_true, decide_eq_true_eq, Bool.or_true, Bool.or_false, Bool.true_or, Bool.false_or, Bool.and_true, Bool.true_and, Bool.and_false, Bool.false_and, Bool.not_true, Bool.not_false, reduceCtorEq, beq_self_eq_true, true_and, and_true]
    exact finR q
  rw [if_neg c] at q
  try simp -dsimp -implicitDefEqProofs only [↓rds1, ↓rds2, ↓rds3, ↓rds4, ↓rds5, ↓rds6, ↓rds7, ↓rds8, ↓rds9, ↓rds10, ↓rds11, ↓rds12, List.set_cons_zero, List.set_cons_succ, ne_eq, not_false_eq_true, decide_eq_true_eq, Bool.or_true, Bool.or_false, Bool.true_or, Bool.false_or, Bool.and_true, Bool.true_and, Bool.and_false, Bool.false_and, Bool.not_true, Bool.not_false, reduceCtorEq, beq_self_eq_true, true_and, and_true]
  refine dIte_by (fun c => ?_) fun c => ?_
  · rw [if_pos c] at q
    try simp -dsimp -implicitDefEqProofs only [↓rds1, ↓rds2, ↓rds3, ↓rds4, ↓rds5, ↓rds6, ↓rds7, ↓rds8, ↓rds9, ↓rds10, ↓rds11, ↓rds12, List.set_cons_zero, List.set_cons_succ, ne_eq, not_false_eq_true, decide_eq_true_eq, Bool.or_true, Bool.or_false, Bool.true_or, Bool.false_or, Bool.and_true, Bool.true_and, Bool.and_false, Bool.false_and, Bool.not_true, Bool.not_false, reduceCtorEq, beq_self_eq_true, true_and, and_true]
    exact finR q
  rw [if_neg c] at q
  try simp -dsimp -implicitDefEqProofs only [↓rds1, ↓rds2, ↓rds3, ↓rds4, ↓rds5, ↓rds6, ↓rds7, ↓rds8, ↓rds9, ↓rds10, ↓rds11, ↓rds12, List.set_cons_zero, List.set_cons_succ, ne_eq, not_false_eq_true, decide_eq_true_eq, Bool.or_true, Bool.or_false, Bool.true_or, Bool.false_or, Bool.and_true, Bool.true_and, Bool.and_false, Bool.false_and, Bool.not_true, Bool.not_false, reduceCtorEq, beq_self_eq_true, true_and, and_true]
  refine dIte_by (fun c => ?_) fun c => ?_
  · rw [if_pos c] at q
    exact finR q
  · rw [if_neg c] at q
    exact finR q
theorem plc_mem (e x : Int) : plc e x ∈ lets := by
  unfold plc
  split
  · decide
  split
  · decide
  split
  · decide
  · decide
theorem two_lets : ∀ p ∈ lets, ∀ q ∈ lets, p.length + q.length ≤ 2 ∧ inL (.v (.str (p ++ q))) [.v (.str "ii"), .v (.str "oo")] = decide ((p = "i" ∧ q = "i") ∨ (p = "o" ∧ q = "o")) := by decide +kernel
def sp_ring_way : SpD := fun ds h Q _ => ds.length = 2 ∧ ∃ a b c d : Int, ds = [.t [.v (.int a), .v (.int b)], .t [.v (.int c), .v (.int d)]] ∧ Q (.v (.str (cw a b c d))) h
def rd_ring_way (E : ER) : SD :=
  dSeq (dAsg (d2 pAdd (d2 pSub (dCB cMax (dCons (d2 pAdd (dVar 0) (dVar 1)) (dNil))) (dCB cMin (dCons (d2 pAdd (dVar 0) (dVar 1)) (dNil)))) (dC (.v (.int 1)))) (nG 2))
  (dSeq (dAsg (dCall sp_turned E (dCons (d2 pIt (dVar 0) (dC (.v (.int 0)))) (dCons (dVar 2) (dCons (d2 pIt (dVar 0) (dC (.v (.int 1)))) (dNil))))) (nG 3))
  (dSeq (dAsg (dCall sp_turned E (dCons (d2 pIt (dVar 0) (dC (.v (.int 0)))) (dCons (dVar 2) (dCons (d2 pIt (dVar 1) (dC (.v (.int 0)))) (dNil))))) (nG 4))
  (dSeq (dAsg (dCall sp_turned E (dCons (d2 pIt (dVar 0) (dC (.v (.int 0)))) (dCons (dVar 2) (dCons (d2 pIt (dVar 1) (dC (.v (.int 1)))) (dNil))))) (nG 5))
  (dSeq (dAsg (d2 pAdd (dCall sp_place E (dCons (dVar 3) (dCons (dVar 4) (dNil)))) (dCall sp_place E (dCons (dVar 3) (dCons (dVar 5) (dNil))))) (nG 6))
  (dSeq (dIfS (dAnd (dTest (d2 pMem (dVar 6) (dTup (dCons (dC (.v (.str "ii"))) (dCons (dC (.v (.str "oo"))) (dNil)))))) (dTest (d2 pLt (dVar 5) (dVar 4)))) (dRet (d2 pIt (dDispC [(.inr "ii", .v (.str "II")), (.inr "oo", .v (.str "OO"))]) (dVar 6))) (dNext))
  (dRet (dVar 6)))))))
abbrev N_ring_way : List Str := ["first", "second", "size", "end", "one", "other", "way"]
theorem ok_ring_way : ∀ ds h Q E, sp_ring_way ds h Q E → rd_ring_way (fun x _ h' => E x h') (fin Q) (startD N_ring_way ds) h := by
  rintro ds h Q E ⟨_, a, b, c, d, rfl, ret⟩
  show rd_ring_way _ _ [some (.t [.v (.int a), .v (.int b)]), some (.t [.v (.int c), .v (.int d)]), none, none, none, none, none] h
  unfold rd_ring_way
  try simp -dsimp -implicitDefEqProofs only [↓rds1, ↓rds2, ↓rds3, ↓rds4, ↓rds5, ↓rds6, ↓rds7, ↓rds8, ↓rds9, ↓rds10, ↓rds11, ↓rds12, List.set_cons_zero, List.set_cons_succ, ne_eq, not_false_eq_true, decide_eq_true_eq, Bool.or_true, Bool.or_false, Bool.true_or, Bool.false_or, Bool.and_true, Bool.true_and, Bool.and_false, Bool.false_and, Bool.not_true, Bool.not_false, reduceCtorEq, beq_self_eq_true, true_and, and_true, List.cons_append, List.nil_append, List.length_cons, List.length_nil]
  refine ⟨by decide, by decide, ?_⟩
  refine cl_i ⟨rfl, _, _, _, rfl, ?_⟩
  try simp -dsimp -implicitDefEqProofs only [↓rds1, ↓rds2, ↓rds3, ↓rds4, ↓rds5, ↓rds6, ↓rds7, ↓rds8, ↓rds9, ↓rds10, ↓rds11, ↓rds12, List.set_cons_zero, List.set_cons_succ, ne_eq, not_false_eq_true, decide_eq_true_eq, Bool.or_true, Bool.or_false, Bool.true_or, Bool.false_or, Bool.and_true, Bool.true_and, Bool.and_false, Bool.false_and, Bool.not_true, Bool.not_false, reduceCtorEq, beq_self_eq_true, true_and, and_true]
  refine cl_i ⟨rfl, _, _, _, rfl, ?_⟩
  try simp -dsimp -implicitDefEqProofs only [↓rds1, ↓rds2, ↓rds3, ↓rds4, ↓rds5, ↓rds6, ↓rds7, ↓rds8, ↓rds9, ↓rds10, ↓rds11, ↓rds12, List.set_cons_zero, List.set_cons_succ, ne_eq, not_false_eq_true, decide_eq_true_eq, Bool.or_true, Bool.or_false, Bool.true_or, Bool.false_or, Bool.and_true, Bool.true_and, Bool.and_false, Bool.false_and, Bool.not_true, Bool.not_false, reduceCtorEq, beq_self_eq_true, true_and, and_true]
  refine cl_i ⟨rfl, _, _, _, rfl, ?_⟩
  try simp -dsimp -implicitDefEqProofs only [↓rds1, ↓rds2, ↓rds3, ↓rds4, ↓rds5, ↓rds6, ↓rds7, ↓rds8, ↓rds9, ↓rds10, ↓rds11, ↓rds12, List.set_cons_zero, List.set_cons_succ, ne_eq, not_false_eq_true, decide_eq_true_eq, Bool.or_true, Bool.or_false, Bool.true_or, Bool.false_or, Bool.and_true, Bool.true_and, Bool.and_false, Bool.false_and, Bool.not_true, Bool.not_false, reduceCtorEq, beq_self_eq_true, true_and, and_true]
  refine cl_i ⟨rfl, _, _, rfl, ?_⟩
  try simp -dsimp -implicitDefEqProofs only [↓rds1, ↓rds2, ↓rds3, ↓rds4, ↓rds5, ↓rds6, ↓rds7, ↓rds8, ↓rds9, ↓rds10, ↓rds11, ↓rds12, List.set_cons_zero, List.set_cons_succ, ne_eq, not_false_eq_true, decide_eq_true_eq, Bool.or_true, Bool.or_false, Bool.true_or, Bool.false_or, Bool.and_true, Bool.true_and, Bool.and_false, Bool.false_and, Bool.not_true, Bool.not_false, reduceCtorEq, beq_self_eq_true, true_and, and_true]
  refine cl_i ⟨rfl, _, _, rfl, ?_⟩
  -- the distances are ordered as the ring is
  have hb : ∀ x, x ∈ [a, b, c, d] → minI [a, b, c, d] ≤ x ∧ x ≤ maxI [a, b, c, d] := fun x hx => ⟨minI_le hx, maxI_ge hx⟩
  have ha := hb a (by simp)
  have hb' := hb b (by simp)
  have hc := hb c (by simp)
  have hd := hb d (by simp)
  have key : ∀ x y, minI [a, b, c, d] ≤ x ∧ x ≤ maxI [a, b, c, d] → minI [a, b, c, d] ≤ y ∧ y ≤ maxI [a, b, c, d] → (trn a (maxI [a, b, c, d] - minI [a, b, c, d] + 1) x < trn a (maxI [a, b, c, d] - minI [a, b, c, d] + 1) y ↔ cyl a x y = true) := by
    intro x y hx hy
    unfold trn cyl
    rw [decide_eq_true_eq]
    generalize maxI [a, b, c, d] = M at *
    generalize minI [a, b, c, d] = m at *
    split <;> split <;> omega
  have key0 : ∀ x, minI [a, b, c, d] ≤ x ∧ x ≤ maxI [a, b, c, d] → (trn a (maxI [a, b, c, d] - minI [a, b, c, d] + 1) x = 0 ↔ x = a) := by
    intro x hx
    unfold trn
    generalize maxI [a, b, c, d] = M at *
    generalize minI [a, b, c, d] = m at *
    split <;> omega
  have keyE : ∀ x y, minI [a, b, c, d] ≤ x ∧ x ≤ maxI [a, b, c, d] → minI [a, b, c, d] ≤ y ∧ y ≤ maxI [a, b, c, d] → (trn a (maxI [a, b, c, d] - minI [a, b, c, d] + 1) x = trn a (maxI [a, b, c, d] - minI [a, b, c, d] + 1) y ↔ x = y) := by
    intro x y hx hy
    unfold trn
    generalize maxI [a, b, c, d] = M at *
    generalize minI [a, b, c, d] = m at *
    split <;> split <;> omega
  have fin_ := rwy_cw (key0 c hc) (key0 d hd) (key c b hc hb') (key d b hd hb') (keyE c b hc hb') (keyE d b hd hb') (key d c hd hc)
  generalize trn a (maxI [a, b, c, d] - minI [a, b, c, d] + 1) b = e at *
  generalize trn a (maxI [a, b, c, d] - minI [a, b, c, d] + 1) c = x at *
  generalize trn a (maxI [a, b, c, d] - minI [a, b, c, d] + 1) d = y at *
  rw [← fin_] at ret
  unfold rwy at ret
  have p1 := plc_mem e x
  have p2 := plc_mem e y
  generalize plc e x = p at *
  generalize plc e y = q at *
  obtain ⟨f1, f2⟩ := two_lets p p1 q p2
  try simp -dsimp -implicitDefEqProofs only [↓rds1, ↓rds2, ↓rds3, ↓rds4, ↓rds5, ↓rds6, ↓rds7, ↓rds8, ↓rds9, ↓rds10, ↓rds11, ↓rds12, List.set_cons_zero, List.set_cons_succ, ne_eq, not_false_eq_true, decide_eq_true_eq, Bool.or_true, Bool.or_false, Bool.true_or, Bool.false_or, Bool.and_true, Bool.true_and, Bool.and_false, Bool.false_and, Bool.not_true, Bool.not_false, reduceCtorEq, beq_self_eq_true, true_and, and_true, f2, if_false]
  refine ⟨Nat.le_trans f1 (by decide), rfl, rfl, ?_⟩
  by_cases k1 : (p = "i" ∧ q = "i") ∨ (p = "o" ∧ q = "o")
  · refine dIte_pos k1 ?_
    try simp -dsimp -implicitDefEqProofs only [↓rds1, ↓rds2, ↓rds3, ↓rds4, ↓rds5, ↓rds6, ↓rds7, ↓rds8, ↓rds9, ↓rds10, ↓rds11, ↓rds12, List.set_cons_zero, List.set_cons_succ, ne_eq, not_false_eq_true, decide_eq_true_eq, Bool.or_true, Bool.or_false, Bool.true_or, Bool.false_or, Bool.and_true, Bool.true_and, Bool.and_false, Bool.false_and, Bool.not_true, Bool.not_false, reduceCtorEq, beq_self_eq_true, true_and, and_true]
    refine dIte_by (fun k2 => ?_) fun k2 => ?_
    · try simp -dsimp -implicitDefEqProofs only [↓rds1, ↓rds2, ↓rds3, ↓rds4, ↓rds5, ↓rds6, ↓rds7, ↓rds8, ↓rds9, ↓rds10, ↓rds11, ↓rds12, List.set_cons_zero, List.set_cons_succ, ne_eq, not_false_eq_true, decide_eq_true_eq, Bool.or_true, Bool.or_false, Bool.true_or, Bool.false_or, Bool.and_true, Bool.true_and, Bool.and_false, Bool.false_and, Bool.not_true, Bool.not_false, reduceCtorEq, beq_self_eq_true, true_and, and_true]
      refine al_i fun l hl => ?_
      rcases k1 with ⟨rfl, rfl⟩ | ⟨rfl, rfl⟩
      · have e1 : valD (mergeD [] [(.inr "ii", .v (.str "II")), (.inr "oo", .v (.str "OO"))]) (.inr (("i" : Str) ++ "i")) = some (.v (.str "II")) := by decide
        try simp -dsimp -implicitDefEqProofs only [↓rds1, ↓rds2, ↓rds3, ↓rds4, ↓rds5, ↓rds6, ↓rds7, ↓rds8, ↓rds9, ↓rds10, ↓rds11, ↓rds12, List.set_cons_zero, List.set_cons_succ, ne_eq, not_false_eq_true, decide_eq_true_eq, Bool.or_true, Bool.or_false, Bool.true_or, Bool.false_or, Bool.and_true, Bool.true_and, Bool.and_false, Bool.false_and, Bool.not_true, Bool.not_false, reduceCtorEq, beq_self_eq_true, true_and, and_true, e1]
        rw [joinW, if_pos ⟨rfl, rfl, decide_eq_true k2⟩] at ret
        exact finI (Sub.put hl) ret
      · have e1 : valD (mergeD [] [(.inr "ii", .v (.str "II")), (.inr "oo", .v (.str "OO"))]) (.inr (("o" : Str) ++ "o")) = some (.v (.str "OO")) := by decide
        try simp -dsimp -implicitDefEqProofs only [↓rds1, ↓rds2, ↓rds3, ↓rds4, ↓rds5, ↓rds6, ↓rds7, ↓rds8, ↓rds9, ↓rds10, ↓rds11, ↓rds12, List.set_cons_zero, List.set_cons_succ, ne_eq, not_false_eq_true, decide_eq_true_eq, Bool.or_true, Bool.or_false, Bool.true_or, Bool.false_or, Bool.and_true, Bool.true_and, Bool.and_false, Bool.false_and, Bool.not_true, Bool.not_false, reduceCtorEq, beq_self_eq_true, true_and, and_true, e1]
        rw [joinW, if_neg (fun z => absurd z.1 (by decide)), if_pos ⟨rfl, rfl, decide_eq_true k2⟩] at ret
        exact finI (Sub.put hl) ret
    · try simp -dsimp -implicitDefEqProofs only [↓rds1, ↓rds2, ↓rds3, ↓rds4, ↓rds5, ↓rds6, ↓rds7, ↓rds8, ↓rds9, ↓rds10, ↓rds11, ↓rds12, List.set_cons_zero, List.set_cons_succ, ne_eq, not_false_eq_true, decide_eq_true_eq, Bool.or_true, Bool.or_false, Bool.true_or, Bool.false_or, Bool.and_true, Bool.true_and, Bool.and_false, Bool.false_and, Bool.not_true, Bool.not_false, reduceCtorEq, beq_self_eq_true, true_and, and_true]
      rw [joinW, if_neg (fun z => k2 (of_decide_eq_true z.2.2)), if_neg (fun z => k2 (of_decide_eq_true z.2.2))] at ret
      exact finR ret
  · refine dIte_neg k1 ?_
    try simp -dsimp -implicitDefEqProofs only [↓rds1, ↓rds2, ↓rds3, ↓rds4, ↓rds5, ↓rds6, ↓rds7, ↓rds8, ↓rds9, ↓rds10, ↓rds11, ↓rds12, List.set_cons_zero, List.set_cons_succ, ne_eq, not_false_eq_true, decide_eq_true_eq, Bool.or_true, Bool.or_false, Bool.true_or, Bool.false_or, Bool.and_true, Bool.true_and, Bool.and_false, Bool.false_and, Bool.not_true, Bool.not_false, reduceCtorEq, beq_self_eq_true, true_and, and_true]
    rw [joinW, if_neg (fun z => k1 (.inl ⟨z.1, z.2.1⟩)), if_neg (fun z => k1 (.inr ⟨z.1, z.2.1⟩))] at ret
    exact finR ret
/-! ### the law's own way, by places in a row -/
/-- how many are less -/
def rk (l : List Int) (x : Int) : Nat := (l.filter fun y => decide (y < x)).length
theorem rk_lt : ∀ {l : List Int} {x y : Int}, x ∈ l → x < y → rk l x < rk l y := by
  intro l x y hx h
  have mono : ∀ l : List Int, rk l x ≤ rk l y := by
    intro l
    induction l with
    | nil => exact Nat.le_refl _
    | cons z r ih =>
      unfold rk at ih ⊢
      rw [List.filter_cons, List.filter_cons]
      by_cases c : z < x
      · rw [if_pos (decide_eq_true c), if_pos (decide_eq_true (by omega))]
        exact Nat.succ_le_succ ih
      · rw [if_neg (fun z => c (of_decide_eq_true z))]
        split
        · exact Nat.le_succ_of_le ih
        · exact ih
  induction l with
  | nil => cases hx
  | cons z r ih =>
    rcases List.mem_cons.mp hx with e | hx
    · subst e
      have := mono r
      unfold rk at this ⊢
      rw [List.filter_cons, List.filter_cons, if_neg (fun z => Int.lt_irrefl _ (of_decide_eq_true z)), if_pos (decide_eq_true h)]
      exact Nat.lt_succ_of_le this
    · have := ih hx
      unfold rk at this ⊢
      rw [List.filter_cons, List.filter_cons]
      by_cases c : z < x
      · rw [if_pos (decide_eq_true c), if_pos (decide_eq_true (by omega))]
        exact Nat.succ_lt_succ this
      · rw [if_neg (fun z => c (of_decide_eq_true z))]
        split
        · exact Nat.lt_succ_of_lt this
        · exact this
theorem rk_lt4 {l : List Int} {x : Int} (h : x ∈ l) : rk l x < l.length := by
  unfold rk
  induction l with
  | nil => cases h
  | cons z r ih =>
    rw [List.filter_cons, List.length_cons]
    rcases List.mem_cons.mp h with e | h
    · subst e
      rw [if_neg (fun z => Int.lt_irrefl _ (of_decide_eq_true z))]
      exact Nat.lt_succ_of_le (List.length_filter_le _ _)
    · split
      · rw [List.length_cons]
        exact Nat.succ_lt_succ (ih h)
      · exact Nat.lt_succ_of_lt (ih h)
theorem rk_perm {l m : List Int} {x : Int} (h : l.Perm m) : rk l x = rk m x := (h.filter _).length_eq
theorem eqD_int (i j : Int) : eqD (.v (.int i)) (.v (.int j)) = decide (i = j) := by unfold eqD; exact eqV_int
/-- in a sorted row the first place of a number is its rank -/
theorem ix_rk : ∀ {l : List Int} {x : Int}, l.Pairwise (· ≤ ·) → x ∈ l → ixD (.v (.int x)) (intsD l) = some (rk l x)
  | z :: r, x, hs, hx => by
    show (if eqD (.v (.int z)) (.v (.int x)) = true then some 0 else (ixD (.v (.int x)) (intsD r)).map Nat.succ) = _
    rw [eqD_int]
    obtain ⟨h1, h2⟩ := List.pairwise_cons.mp hs
    by_cases e : z = x
    · subst e
      rw [if_pos (decide_eq_true rfl)]
      have : rk (z :: r) z = 0 := by
        unfold rk
        rw [List.length_eq_zero_iff, List.filter_eq_nil_iff]
        intro y hy
        rw [decide_eq_true_eq]
        rcases List.mem_cons.mp hy with e | hy
        · omega
        · have := h1 y hy
          omega
      rw [this]
    · rw [if_neg (fun z => e (of_decide_eq_true z))]
      have hx' : x ∈ r := by
        rcases List.mem_cons.mp hx with e' | h
        · exact absurd e'.symm e
        · exact h
      rw [ix_rk h2 hx']
      have : rk (z :: r) x = rk r x + 1 := by
        have := h1 x hx'
        unfold rk
        rw [List.filter_cons, if_pos (decide_eq_true (by omega)), List.length_cons]
      rw [this]
      rfl
theorem ints_flat (l : List Int) : (intsD l).all flatD = true := by
  rw [List.all_eq_true]
  intro d hd
  obtain ⟨i, _, rfl⟩ := List.mem_map.mp hd
  rfl
theorem two_lets2 : ∀ p ∈ lets, ∀ q ∈ lets, Txt.upper (p ++ q) = (if p = "i" ∧ q = "i" then ("II" : Str) else if p = "o" ∧ q = "o" then "OO" else Txt.upper (p ++ q)) := by decide +kernel
def sp_law_ring_way : SpD := fun ds h Q _ => ds.length = 2 ∧ ∃ a b c d : Int, ds = [.t [.v (.int a), .v (.int b)], .t [.v (.int c), .v (.int d)]] ∧ Q (.v (.str (cw a b c d))) h
def rd_law_ring_way (E : ER) : SD :=
  dSeq (dAsg (dCB cSortedA (dCons (dLst (dCons (d2 pIt (dVar 0) (dC (.v (.int 0)))) (dCons (d2 pIt (dVar 0) (dC (.v (.int 1)))) (dCons (d2 pIt (dVar 1) (dC (.v (.int 0)))) (dCons (d2 pIt (dVar 1) (dC (.v (.int 1)))) (dNil)))))) (dNil))) (nG 2))
  (dSeq (dAsg (dBM "list" mIndex (dVar 2) (dCons (d2 pIt (dVar 0) (dC (.v (.int 0)))) (dNil))) (nG 3))
  (dSeq (dAsg (d2 pMod (dCB cInt (dCons (d2 pSub (dBM "list" mIndex (dVar 2) (dCons (d2 pIt (dVar 0) (dC (.v (.int 1)))) (dNil))) (dVar 3)) (dNil))) (dC (.v (.int 4)))) (nG 4))
  (dSeq (dAsg (d2 pMod (dCB cInt (dCons (d2 pSub (dBM "list" mIndex (dVar 2) (dCons (d2 pIt (dVar 1) (dC (.v (.int 0)))) (dNil))) (dVar 3)) (dNil))) (dC (.v (.int 4)))) (nG 5))
  (dSeq (dAsg (d2 pMod (dCB cInt (dCons (d2 pSub (dBM "list" mIndex (dVar 2) (dCons (d2 pIt (dVar 1) (dC (.v (.int 1)))) (dNil))) (dVar 3)) (dNil))) (dC (.v (.int 4)))) (nG 6))
  (dSeq (dAsg (dC (.v (.str ""))) (nG 7))
  (dSeq (dFor (iAnyD (dLst (dCons (dVar 5) (dCons (dVar 6) (dNil))))) (nG 8) (dIfS (dTest (d2 pEqA (dVar 8) (dC (.v (.int 0))))) (dAsg (d2 pAdd (dVar 7) (dC (.v (.str "b")))) (nG 7)) (dIfS (dTest (d2 pLt (dVar 8) (dVar 4))) (dAsg (d2 pAdd (dVar 7) (dC (.v (.str "i")))) (nG 7)) (dIfS (dTest (d2 pEqA (dVar 8) (dVar 4))) (dAsg (d2 pAdd (dVar 7) (dC (.v (.str "e")))) (nG 7)) (dAsg (d2 pAdd (dVar 7) (dC (.v (.str "o")))) (nG 7))))))
  (dSeq (dIfS (dAnd (dTest (d2 pMem (dVar 7) (dLst (dCons (dC (.v (.str "ii"))) (dCons (dC (.v (.str "oo"))) (dNil)))))) (dTest (d2 pLt (dVar 6) (dVar 5)))) (dRet (dBM0 "str" mUpper (dVar 7))) (dNext))
  (dRet (dVar 7)))))))))
abbrev N_law_ring_way : List Str := ["first", "second", "row", "start", "end", "one", "other", "letters", "spot"]
theorem ok_law_ring_way : ∀ ds h Q E, sp_law_ring_way ds h Q E → rd_law_ring_way (fun x _ h' => E x h') (fin Q) (startD N_law_ring_way ds) h := by
  rintro ds h Q E ⟨_, a, b, c, d, rfl, ret⟩
  show rd_law_ring_way _ _ [some (.t [.v (.int a), .v (.int b)]), some (.t [.v (.int c), .v (.int d)]), none, none, none, none, none, none, none] h
  unfold rd_law_ring_way
  try simp -dsimp -implicitDefEqProofs only [↓rds1, ↓rds2, ↓rds3, ↓rds4, ↓rds5, ↓rds6, ↓rds7, ↓rds8, ↓rds9, ↓rds10, ↓rds11, ↓rds12, List.set_cons_zero, List.set_cons_succ, ne_eq, not_false_eq_true, decide_eq_true_eq, Bool.or_true, Bool.or_false, Bool.true_or, Bool.false_or, Bool.and_true, Bool.true_and, Bool.and_false, Bool.false_and, Bool.not_true, Bool.not_false, reduceCtorEq, beq_self_eq_true, true_and, and_true]
  refine al_i fun l0 hl0 => ?_
  try simp -dsimp -implicitDefEqProofs only [↓rds1, ↓rds2, ↓rds3, ↓rds4, ↓rds5, ↓rds6, ↓rds7, ↓rds8, ↓rds9, ↓rds10, ↓rds11, ↓rds12, List.set_cons_zero, List.set_cons_succ, ne_eq, not_false_eq_true, decide_eq_true_eq, Bool.or_true, Bool.or_false, Bool.true_or, Bool.false_or, Bool.and_true, Bool.true_and, Bool.and_false, Bool.false_and, Bool.not_true, Bool.not_false, reduceCtorEq, beq_self_eq_true, true_and, and_true]
  refine srt_i fun l hp hs => al_i fun l1 hl1 => ?_
  have ix : ∀ x, x ∈ [a, b, c, d] → ixD (.v (.int x)) (intsD l) = some (rk [a, b, c, d] x) := fun x hx => by
    rw [ix_rk hs (hp.mem_iff.mpr hx), rk_perm hp]
  have ia := ix a (by simp)
  have ib := ix b (by simp)
  have ic := ix c (by simp)
  have id' := ix d (by simp)
  have fl := ints_flat l
  try simp -dsimp -implicitDefEqProofs only [↓rds1, ↓rds2, ↓rds3, ↓rds4, ↓rds5, ↓rds6, ↓rds7, ↓rds8, ↓rds9, ↓rds10, ↓rds11, ↓rds12, List.set_cons_zero, List.set_cons_succ, ne_eq, not_false_eq_true, decide_eq_true_eq, Bool.or_true, Bool.or_false, Bool.true_or, Bool.false_or, Bool.and_true, Bool.true_and, Bool.and_false, Bool.false_and, Bool.not_true, Bool.not_false, reduceCtorEq, beq_self_eq_true, true_and, and_true, ia, ib, ic, id', fl]
  refine ⟨rfl, rfl, by decide, rfl, by decide, rfl, by decide, ?_⟩
  -- the ranks are ordered as the ring is
  have rl : ∀ u v, u ∈ [a, b, c, d] → v ∈ [a, b, c, d] → ((rk [a, b, c, d] u : Nat) < rk [a, b, c, d] v ↔ u < v) := fun u v hu hv => by
    refine ⟨fun h => ?_, fun h => rk_lt hu h⟩
    rcases Int.lt_trichotomy u v with e | e | e
    · exact e
    · subst e; omega
    · have := rk_lt hv e
      omega
  have r4 : ∀ u, u ∈ [a, b, c, d] → rk [a, b, c, d] u < 4 := fun u hu => rk_lt4 hu
  have ma : a ∈ [a, b, c, d] := by simp
  have key : ∀ u v, u ∈ [a, b, c, d] → v ∈ [a, b, c, d] → ((((rk [a, b, c, d] u : Nat) : Int) - (rk [a, b, c, d] a : Nat)) % 4 < (((rk [a, b, c, d] v : Nat) : Int) - (rk [a, b, c, d] a : Nat)) % 4 ↔ cyl a u v = true) := by
    intro u v hu hv
    have h1 := rl u v hu hv
    have h2 := rl u a hu ma
    have h3 := rl v a hv ma
    have h4 := r4 u hu
    have h5 := r4 v hv
    have h6 := r4 a ma
    unfold cyl
    rw [decide_eq_true_eq]
    generalize rk [a, b, c, d] u = ru at *
    generalize rk [a, b, c, d] v = rv at *
    generalize rk [a, b, c, d] a = ra at *
    omega
  have keyE : ∀ u v, u ∈ [a, b, c, d] → v ∈ [a, b, c, d] → ((((rk [a, b, c, d] u : Nat) : Int) - (rk [a, b, c, d] a : Nat)) % 4 = (((rk [a, b, c, d] v : Nat) : Int) - (rk [a, b, c, d] a : Nat)) % 4 ↔ u = v) := by
    intro u v hu hv
    have h1 := rl u v hu hv
    have h0 := rl v u hv hu
    have h4 := r4 u hu
    have h5 := r4 v hv
    have h6 := r4 a ma
    generalize rk [a, b, c, d] u = ru at *
    generalize rk [a, b, c, d] v = rv at *
    generalize rk [a, b, c, d] a = ra at *
    omega
  have key0 : ∀ u, u ∈ [a, b, c, d] → ((((rk [a, b, c, d] u : Nat) : Int) - (rk [a, b, c, d] a : Nat)) % 4 = 0 ↔ u = a) := by
    intro u hu
    have h1 := rl u a hu ma
    have h0 := rl a u ma hu
    have h4 := r4 u hu
    have h6 := r4 a ma
    generalize rk [a, b, c, d] u = ru at *
    generalize rk [a, b, c, d] a = ra at *
    omega
  have mb : b ∈ [a, b, c, d] := by simp
  have mc : c ∈ [a, b, c, d] := by simp
  have md : d ∈ [a, b, c, d] := by simp
  have fin_ := rwy_cw (key0 c mc) (key0 d md) (key c b mc mb) (key d b md mb) (keyE c b mc mb) (keyE d b md mb) (key d c md mc)
  rw [← fin_] at ret
  clear key key0 keyE rl r4 fin_ ix ia ib ic id' fl
  generalize (((rk [a, b, c, d] b : Nat) : Int) - (rk [a, b, c, d] a : Nat)) % 4 = e at *
  generalize (((rk [a, b, c, d] c : Nat) : Int) - (rk [a, b, c, d] a : Nat)) % 4 = x at *
  generalize (((rk [a, b, c, d] d : Nat) : Int) - (rk [a, b, c, d] a : Nat)) % 4 = y at *
  generalize ((rk [a, b, c, d] a : Nat) : Int) = ra at *
  unfold rwy at ret
  refine al_i fun l2 hl2 => ?_
  have s1 : Sub h (put h l0 (.lst [D.v (.int a), D.v (.int b), D.v (.int c), D.v (.int d)])) := Sub.put hl0
  have s2 := (s1.trans (Sub.put (o := .lst (intsD l)) hl1)).trans (Sub.put (o := .lst [D.v (.int x), D.v (.int y)]) hl2)
  have g2 : put (put (put h l0 (.lst [D.v (.int a), D.v (.int b), D.v (.int c), D.v (.int d)])) l1 (.lst (intsD l))) l2 (.lst [D.v (.int x), D.v (.int y)]) l2 = some (.lst [D.v (.int x), D.v (.int y)]) := put_same
  generalize put (put (put h l0 (.lst [D.v (.int a), D.v (.int b), D.v (.int c), D.v (.int d)])) l1 (.lst (intsD l))) l2 (.lst [D.v (.int x), D.v (.int y)]) = h2 at s2 g2
  try simp -dsimp -implicitDefEqProofs only [↓rds1, ↓rds2, ↓rds3, ↓rds4, ↓rds5, ↓rds6, ↓rds7, ↓rds8, ↓rds9, ↓rds10, ↓rds11, ↓rds12, List.set_cons_zero, List.set_cons_succ, ne_eq, not_false_eq_true, decide_eq_true_eq, Bool.or_true, Bool.or_false, Bool.true_or, Bool.false_or, Bool.and_true, Bool.true_and, Bool.and_false, Bool.false_and, Bool.not_true, Bool.not_false, reduceCtorEq, beq_self_eq_true, true_and, and_true, g2]
  have l1' : ∀ z ∈ lets, z.length = 1 := by decide
  refine loop_of (fun i σ h' => h' = h2 ∧ ∃ z v, σ = [some (.t [.v (.int a), .v (.int b)]), some (.t [.v (.int c), .v (.int d)]), some (.v (.ref l1)), some (.v (.int ra)), some (.v (.int e)), some (.v (.int x)), some (.v (.int y)), some (.v (.str z)), v] ∧ ((i = 0 ∧ z = "") ∨ (i = 1 ∧ z = plc e x) ∨ (i = 2 ∧ z = plc e x ++ plc e y))) ⟨rfl, _, _, rfl, .inl ⟨rfl, rfl⟩⟩ (fun i σ h' _ ⟨e, _⟩ => by rw [e]; exact rdL_l g2) ?_ ?_
  · rintro i w σ h' hi ⟨rfl, z, v, rfl, hz⟩ N hN
    have e0 : ("" : Str) ++ plc e x = plc e x := (by decide : ∀ p ∈ lets, ("" : Str) ++ p = p) _ (plc_mem e x)
    obtain ⟨u, rfl, hz2, hz3⟩ : ∃ u, w = .v (.int u) ∧ z.length ≤ 1 ∧ ((i + 1 = 0 ∧ z ++ plc e u = "") ∨ (i + 1 = 1 ∧ z ++ plc e u = plc e x) ∨ (i + 1 = 2 ∧ z ++ plc e u = plc e x ++ plc e y)) := by
      rcases hz with ⟨rfl, rfl⟩ | ⟨rfl, rfl⟩ | ⟨rfl, rfl⟩
      · cases hi
        exact ⟨x, rfl, by decide, .inr (.inl ⟨rfl, e0⟩)⟩
      · cases hi
        exact ⟨y, rfl, by rw [l1' _ (plc_mem e x)]; exact Nat.le_refl _, .inr (.inr ⟨rfl, rfl⟩)⟩
      · cases hi
    have step : ∀ t : Str, t ∈ lets → t = plc e u → z.length + t.length ≤ sizeLine ∧ N [some (.t [.v (.int a), .v (.int b)]), some (.t [.v (.int c), .v (.int d)]), some (.v (.ref l1)), some (.v (.int ra)), some (.v (.int e)), some (.v (.int x)), some (.v (.int y)), some (.v (.str (z ++ t))), some (.v (.int u))] h' := by
      intro t ht et
      refine ⟨by rw [l1' t ht]; exact Nat.le_trans (Nat.succ_le_succ hz2) (by decide), hN _ _ ⟨rfl, _, _, rfl, ?_⟩⟩
      rw [et]
      exact hz3
    try simp -dsimp -implicitDefEqProofs only [↓rds1, ↓rds2, ↓rds3, ↓rds4, ↓rds5, ↓rds6, ↓rds7, ↓rds8, ↓rds9, ↓rds10, ↓rds11, ↓rds12, List.set_cons_zero, List.set_cons_succ, ne_eq, not_false_eq_true, decide_eq_true_eq, Bool.or_true, Bool.or_false, Bool.true_or, Bool.false_or, Bool.and_true, Bool.true_and, Bool.and_false, Bool.false_and, Bool.not_true, Bool.not_false, reduceCtorEq, beq_self_eq_true, true_and, and_true]
    refine dIte_by (fun k => ?_) fun k => ?_
    · try simp -dsimp -implicitDefEqProofs only [↓rds1, ↓rds2, ↓rds3, ↓rds4, ↓rds5, ↓rds6, ↓rds7, ↓rds8, ↓rds9, ↓rds10, ↓rds11, ↓rds12, List.set_cons_zero, List.set_cons_succ, ne_eq, not_false_eq_true, decide_eq_true_eq, Bool.or_true, Bool.or_false, Bool.true_or, Bool.false_or, Bool.and_true, Bool.true_and, Bool.and_false, Bool.false_and, Bool.not_true, Bool.not_false, reduceCtorEq, beq_self_eq_true, true_and, and_true]
      exact step "b" (by decide) (by unfold plc; rw [if_pos k])
    try simp -dsimp -implicitDefEqProofs only [↓rds1, ↓rds2, ↓rds3, ↓rds4, ↓rds5, ↓rds6, ↓rds7, ↓rds8, ↓rds9, ↓rds10, ↓rds11, ↓rds12, List.set_cons_zero, List.set_cons_succ, ne_eq, not_false_eq_true, decide_eq_true_eq, Bool.or_true, Bool.or_false, Bool.true_or, Bool.false_or, Bool.and_true, Bool.true_and, Bool.and_false, Bool.false_and, Bool.not_true, Bool.not_false, reduceCtorEq, beq_self_eq_true, true_and, and_true]
    refine dIte_by (fun k' => ?_) fun k' => ?_
    · try simp -dsimp -implicitDefEqProofs only [↓rds1, ↓rds2, ↓rds3, ↓rds4, ↓rds5, ↓rds6, ↓rds7, ↓rds8, ↓rds9, ↓rds10, ↓rds11, ↓rds12, List.set_cons_zero, List.set_cons_succ, ne_eq, not_false_eq_true, decide_eq_true_eq, Bool.or_true, Bool.or_false, Bool.true_or, Bool.false_or, Bool.and_true, Bool.true_and, Bool.and_false, Bool.false_and, Bool.not_true, Bool.not_false, reduceCtorEq, beq_self_eq_true, true_and, and_true]
      exact step "i" (by decide) (by unfold plc; rw [if_neg k, if_pos k'])
    try simp -dsimp -implicitDefEqProofs only [↓rds1, ↓rds2, ↓rds3, ↓rds4, ↓rds5, ↓rds6, ↓rds7, ↓rds8, ↓rds9, ↓rds10, ↓rds11, ↓rds12, List.set_cons_zero, List.set_cons_succ, ne_eq, not_false_eq_true, decide_eq_true_eq, Bool.or_true, Bool.or_false, Bool.true_or, Bool.false_or, Bool.and_true, Bool.true_and, Bool.and_false, Bool.false_and, Bool.not_true, Bool.not_false, reduceCtorEq, beq_self_eq_true, true_and, and_true]
    refine dIte_by (fun k'' => ?_) fun k'' => ?_
    · try simp -dsimp -implicitDefEqProofs only [↓rds1, ↓rds2, ↓rds3, ↓rds4, ↓rds5, ↓rds6, ↓rds7, ↓rds8, ↓rds9, ↓rds10, ↓rds11, ↓rds12, List.set_cons_zero, List.set_cons_succ, ne_eq, not_false_eq_true, decide_eq_true_eq, Bool.or_true, Bool.or_false, Bool.true_or, Bool.false_or, Bool.and_true, Bool.true_and, Bool.and_false, Bool.false_and, Bool.not_true, Bool.not_false, reduceCtorEq, beq_self_eq_true, true_and, and_true]
      exact step "e" (by decide) (by unfold plc; rw [if_neg k, if_neg k', if_pos k''])
    · try simp -dsimp -implicitDefEqProofs only [↓rds1, ↓rds2, ↓rds3, ↓rds4, ↓rds5, ↓rds6, ↓rds7, ↓rds8, ↓rds9, ↓rds10, ↓rds11, ↓rds12, List.set_cons_zero, List.set_cons_succ, ne_eq, not_false_eq_true, decide_eq_true_eq, Bool.or_true, Bool.or_false, Bool.true_or, Bool.false_or, Bool.and_true, Bool.true_and, Bool.and_false, Bool.false_and, Bool.not_true, Bool.not_false, reduceCtorEq, beq_self_eq_true, true_and, and_true]
      exact step "o" (by decide) (by unfold plc; rw [if_neg k, if_neg k', if_neg k''])
  · rintro σ h' ⟨rfl, z, v, rfl, hz⟩
    obtain rfl : z = plc e x ++ plc e y := by
      rcases hz with ⟨e, _⟩ | ⟨e, _⟩ | ⟨_, e⟩
      · cases e
      · cases e
      · exact e
    have p1 := plc_mem e x
    have p2 := plc_mem e y
    generalize plc e x = p at *
    generalize plc e y = q at *
    obtain ⟨f1, f2⟩ := two_lets p p1 q p2
    have f3 := two_lets2 p p1 q p2
    try simp -dsimp -implicitDefEqProofs only [↓rds1, ↓rds2, ↓rds3, ↓rds4, ↓rds5, ↓rds6, ↓rds7, ↓rds8, ↓rds9, ↓rds10, ↓rds11, ↓rds12, List.set_cons_zero, List.set_cons_succ, ne_eq, not_false_eq_true, decide_eq_true_eq, Bool.or_true, Bool.or_false, Bool.true_or, Bool.false_or, Bool.and_true, Bool.true_and, Bool.and_false, Bool.false_and, Bool.not_true, Bool.not_false, reduceCtorEq, beq_self_eq_true, true_and, and_true]
    refine al_i fun l3 hl3 => ?_
    try simp -dsimp -implicitDefEqProofs only [↓rds1, ↓rds2, ↓rds3, ↓rds4, ↓rds5, ↓rds6, ↓rds7, ↓rds8, ↓rds9, ↓rds10, ↓rds11, ↓rds12, List.set_cons_zero, List.set_cons_succ, ne_eq, not_false_eq_true, decide_eq_true_eq, Bool.or_true, Bool.or_false, Bool.true_or, Bool.false_or, Bool.and_true, Bool.true_and, Bool.and_false, Bool.false_and, Bool.not_true, Bool.not_false, reduceCtorEq, beq_self_eq_true, true_and, and_true, f2, if_false, Bool.false_eq_true]
    refine ⟨rfl, by decide, ?_⟩
    by_cases k1 : (p = "i" ∧ q = "i") ∨ (p = "o" ∧ q = "o")
    · refine dIte_pos k1 ?_
      try simp -dsimp -implicitDefEqProofs only [↓rds1, ↓rds2, ↓rds3, ↓rds4, ↓rds5, ↓rds6, ↓rds7, ↓rds8, ↓rds9, ↓rds10, ↓rds11, ↓rds12, List.set_cons_zero, List.set_cons_succ, ne_eq, not_false_eq_true, decide_eq_true_eq, Bool.or_true, Bool.or_false, Bool.true_or, Bool.false_or, Bool.and_true, Bool.true_and, Bool.and_false, Bool.false_and, Bool.not_true, Bool.not_false, reduceCtorEq, beq_self_eq_true, true_and, and_true]
      refine dIte_by (fun k2 => ?_) fun k2 => ?_
      · try simp -dsimp -implicitDefEqProofs only [↓rds1, ↓rds2, ↓rds3, ↓rds4, ↓rds5, ↓rds6, ↓rds7, ↓rds8, ↓rds9, ↓rds10, ↓rds11, ↓rds12, List.set_cons_zero, List.set_cons_succ, ne_eq, not_false_eq_true, decide_eq_true_eq, Bool.or_true, Bool.or_false, Bool.true_or, Bool.false_or, Bool.and_true, Bool.true_and, Bool.and_false, Bool.false_and, Bool.not_true, Bool.not_false, reduceCtorEq, beq_self_eq_true, true_and, and_true]
        have f5 : (p ++ q).length ≤ 2 := by
          rcases k1 with ⟨rfl, rfl⟩ | ⟨rfl, rfl⟩ <;> decide
        refine ⟨Nat.le_trans f5 (by decide), ?_⟩
        rw [f3]
        rw [joinW] at ret
        rcases k1 with ⟨rfl, rfl⟩ | ⟨rfl, rfl⟩
        · rw [if_pos ⟨rfl, rfl, decide_eq_true k2⟩] at ret
          rw [if_pos ⟨rfl, rfl⟩]
          exact finI (s2.trans (Sub.put hl3)) ret
        · rw [if_neg (fun z => absurd z.1 (by decide)), if_pos ⟨rfl, rfl, decide_eq_true k2⟩] at ret
          rw [if_neg (fun z => absurd z.1 (by decide)), if_pos ⟨rfl, rfl⟩]
          exact finI (s2.trans (Sub.put hl3)) ret
      · try simp -dsimp -implicitDefEqProofs only [↓rds1, ↓rds2, ↓rds3, ↓rds4, ↓rds5, ↓rds6, ↓rds7, ↓rds8, ↓rds9, ↓rds10, ↓rds11, ↓rds12, List.set_cons_zero, List.set_cons_succ, ne_eq, not_false_eq_true, decide_eq_true_eq, Bool.or_true, Bool.or_false, Bool.true_or, Bool.false_or, Bool.and_true, Bool.true_and, Bool.and_false, Bool.false_and, Bool.not_true, Bool.not_false, reduceCtorEq, beq_self_eq_true, true_and, and_true]
        rw [joinW, if_neg (fun z => k2 (of_decide_eq_true z.2.2)), if_neg (fun z => k2 (of_decide_eq_true z.2.2))] at ret
        exact finI (s2.trans (Sub.put hl3)) ret
    · refine dIte_neg k1 ?_
      try simp -dsimp -implicitDefEqProofs only [↓rds1, ↓rds2, ↓rds3, ↓rds4, ↓rds5, ↓rds6, ↓rds7, ↓rds8, ↓rds9, ↓rds10, ↓rds11, ↓rds12, List.set_cons_zero, List.set_cons_succ, ne_eq, not_false_eq_true, decide_eq_true_eq, Bool.or_true, Bool.or_false, Bool.true_or, Bool.false_or, Bool.and_true, Bool.true_and, Bool.and_false, Bool.false_and, Bool.not_true, Bool.not_false, reduceCtorEq, beq_self_eq_true, true_and, and_true]
      rw [joinW, if_neg (fun z => k1 (.inl ⟨z.1, z.2.1⟩)), if_neg (fun z => k1 (.inr ⟨z.1, z.2.1⟩))] at ret
      exact finI (s2.trans (Sub.put hl3)) ret
end DL
/-! DLx: drawn figures -/
namespace DL
open PySem L2
abbrev Pr := Int × Int
def prD (p : Pr) : D := .t [.v (.int p.1), .v (.int p.2)]
def prOk (kind : Str) (p : Pr) : Prop := if kind = "ring" then p.1 ≠ p.2 else p.1 < p.2
def prB (n : Int) (p : Pr) : Prop := (0 ≤ p.1 ∧ p.1 < n) ∧ 0 ≤ p.2 ∧ p.2 < n
theorem pool_keep {h : Hd} {p q l : Addr} {cells : List Int} {o : O} (P : PoolAt h p q cells) (n : h l = none) : PoolAt (put h l o) p q cells := by
  have l1 : l ≠ p := fun e => by obtain ⟨z, e'⟩ := P.st; rw [e, e'] at n; cases n
  have l2 : l ≠ q := fun e => by rw [e, P.cl] at n; cases n
  obtain ⟨s, e⟩ := P.st
  exact ⟨⟨s, by rw [put_ne l1.symm]; exact e⟩, by rw [put_ne l2.symm]; exact P.cl, P.ne, P.ln⟩
theorem pool_ne {h : Hd} {p q l : Addr} {cells : List Int} (P : PoolAt h p q cells) (n : h l = none) : l ≠ p ∧ l ≠ q := by
  refine ⟨fun e => ?_, fun e => ?_⟩
  · obtain ⟨z, e'⟩ := P.st; rw [e, e'] at n; cases n
  · rw [e, P.cl] at n; cases n
theorem log_small {k : Int} (h0 : 0 ≤ k) (h : k < 2 ^ 40) : k.natAbs.log2 < 9000 := Nat.lt_of_le_of_lt (log_lt h0 h) (by decide)
def sp_law_pairs : SpD := fun ds h Q _ => ds.length = 3 ∧ ∃ (p q : Addr) (cells : List Int) (kind : Str) (count : Nat), ds = [.v (.ref p), .v (.str kind), .v (.int (count : Int))] ∧ PoolAt h p q cells ∧ 1 ≤ count ∧ count ≤ 1000 ∧
  ∀ (l : Addr) (s : Int × Int × Int) (ps : List Pr), h l = none → ps.length = count → (∀ x ∈ ps, prOk kind x) → (∀ x ∈ ps, prB (2 * count) x) → Q (.v (.ref l)) (put (put h p (poolO q s)) l (.lst (ps.map prD)))
def rd_law_pairs (E : ER) : SD :=
  dSeq (dAsg (d2 pAdd (dC (.v (.int 2))) (dCall sp_law_draw E (dCons (dVar 0) (dCons (d2 pSub (d2 pMul (dC (.v (.int 2))) (dVar 2)) (dC (.v (.int 1)))) (dNil))))) (nG 3))
  (dSeq (dAsg (dLst (dNil)) (nG 4))
  (dSeq (dFor (iRng1D (dCons (dVar 2) (dNil))) (nG 5) (dIfS (dTest (d2 pEqA (dVar 1) (dC (.v (.str "ring"))))) (dSeq (dAsg (dCall sp_law_draw E (dCons (dVar 0) (dCons (dVar 3) (dNil)))) (nG 6))
  (dDrop (dBM "list" mAppend (dVar 4) (dCons (dTup (dCons (dVar 6) (dCons (d2 pMod (dCB cInt (dCons (d2 pAdd (d2 pAdd (dVar 6) (dC (.v (.int 1)))) (dCall sp_law_draw E (dCons (dVar 0) (dCons (d2 pSub (dVar 3) (dC (.v (.int 1)))) (dNil))))) (dNil))) (dVar 3)) (dNil)))) (dNil))))) (dSeq (dAsg (dCall sp_law_draw E (dCons (dVar 0) (dCons (d2 pSub (dVar 3) (dC (.v (.int 1)))) (dNil)))) (nG 6))
  (dDrop (dBM "list" mAppend (dVar 4) (dCons (dTup (dCons (dVar 6) (dCons (d2 pAdd (d2 pAdd (dVar 6) (dC (.v (.int 1)))) (dCall sp_law_draw E (dCons (dVar 0) (dCons (d2 pSub (d2 pSub (dVar 3) (dC (.v (.int 1)))) (dVar 6)) (dNil))))) (dNil)))) (dNil)))))))
  (dRet (dVar 4))))
abbrev N_law_pairs : List Str := ["pool", "kind", "count", "size", "found", "number", "begin"]
theorem ok_law_pairs : ∀ ds h Q E, sp_law_pairs ds h Q E → rd_law_pairs (fun x _ h' => E x h') (fin Q) (startD N_law_pairs ds) h := by
  rintro ds h Q E ⟨_, p, q, cells, kind, count, rfl, P, c1, c2, ret⟩
  show rd_law_pairs _ _ [some (.v (.ref p)), some (.v (.str kind)), some (.v (.int (count : Int))), none, none, none, none] h
  unfold rd_law_pairs
  try simp -dsimp -implicitDefEqProofs only [↓rds1, ↓rds2, ↓rds3, ↓rds4, ↓rds5, ↓rds6, ↓rds7, ↓rds8, ↓rds9, ↓rds10, ↓rds11, ↓rds12, List.set_cons_zero, List.set_cons_succ, ne_eq, not_false_eq_true, decide_eq_true_eq, Bool.or_true, Bool.or_false, Bool.true_or, Bool.false_or, Bool.and_true, Bool.true_and, Bool.and_false, Bool.false_and, Bool.not_true, Bool.not_false, reduceCtorEq, beq_self_eq_true, true_and, and_true]
  refine ⟨mulOk_l _ (by decide), ?_⟩
  refine cl_i ⟨rfl, p, q, cells, _, rfl, P, by omega, log_small (by omega) (by omega), fun k s k0 k1 => ?_⟩
  try simp -dsimp -implicitDefEqProofs only [↓rds1, ↓rds2, ↓rds3, ↓rds4, ↓rds5, ↓rds6, ↓rds7, ↓rds8, ↓rds9, ↓rds10, ↓rds11, ↓rds12, List.set_cons_zero, List.set_cons_succ, ne_eq, not_false_eq_true, decide_eq_true_eq, Bool.or_true, Bool.or_false, Bool.true_or, Bool.false_or, Bool.and_true, Bool.true_and, Bool.and_false, Bool.false_and, Bool.not_true, Bool.not_false, reduceCtorEq, beq_self_eq_true, true_and, and_true]
  refine al_i fun l hl => ?_
  have lp : l ≠ p := fun e => by rw [e, put_same] at hl; cases hl
  rw [put_ne lp] at hl
  have lq := (pool_ne P hl).2
  try simp -dsimp -implicitDefEqProofs only [↓rds1, ↓rds2, ↓rds3, ↓rds4, ↓rds5, ↓rds6, ↓rds7, ↓rds8, ↓rds9, ↓rds10, ↓rds11, ↓rds12, List.set_cons_zero, List.set_cons_succ, ne_eq, not_false_eq_true, decide_eq_true_eq, Bool.or_true, Bool.or_false, Bool.true_or, Bool.false_or, Bool.and_true, Bool.true_and, Bool.and_false, Bool.false_and, Bool.not_true, Bool.not_false, reduceCtorEq, beq_self_eq_true, true_and, and_true, toNat_n]
  refine ⟨by omega, loop_of (fun i σ h' => ∃ s ps v5 v6, h' = put (put h p (poolO q s)) l (.lst (ps.map prD)) ∧ σ = [some (.v (.ref p)), some (.v (.str kind)), some (.v (.int (count : Int))), some (.v (.int (2 + k))), some (.v (.ref l)), v5, v6] ∧ ps.length = i ∧ (∀ x ∈ ps, prOk kind x) ∧ ∀ x ∈ ps, prB (2 * count) x) ⟨s, [], none, none, rfl, rfl, rfl, fun x hx => (by cases hx), fun x hx => (by cases hx)⟩ (fun _ _ _ _ _ => trivial) ?_ ?_⟩
  · rintro i x σ h' hx ⟨s, ps, v5, v6, rfl, rfl, hy, hp, hb⟩ N hN
    obtain ⟨hi, rfl⟩ := rangeD_get hx
    have P1 : PoolAt (put (put h p (poolO q s)) l (.lst (ps.map prD))) p q cells := ⟨⟨s, by rw [put_ne lp.symm, put_same]⟩, by rw [put_ne lq.symm, put_ne P.ne]; exact P.cl, P.ne, P.ln⟩
    have app : ∀ (s : Int × Int × Int) (x : Pr) (v6 : Option D), prOk kind x → prB (2 * count) x → (ps.map prD).length < sizeLine ∧ N [some (.v (.ref p)), some (.v (.str kind)), some (.v (.int (count : Int))), some (.v (.int (2 + k))), some (.v (.ref l)), some (.v (.int (0 + (i : Int)))), v6] (put (put h p (poolO q s)) l (.lst (ps.map prD ++ [prD x]))) := by
      intro s x v6 hx hxb
      refine ⟨by rw [List.length_map, hy]; exact Nat.lt_of_lt_of_le (show i < 1000 by omega) (by decide), hN _ _ ⟨s, ps ++ [x], _, v6, by rw [List.map_append]; rfl, rfl, by rw [List.length_append, hy]; rfl, fun y hy => ?_, fun y hy => ?_⟩⟩
      · rcases List.mem_append.mp hy with hy | hy
        · exact hp y hy
        · rw [List.mem_singleton.mp hy]; exact hx
      · rcases List.mem_append.mp hy with hy | hy
        · exact hb y hy
        · rw [List.mem_singleton.mp hy]; exact hxb
    try simp -dsimp -implicitDefEqProofs only [↓rds1, ↓rds2, ↓rds3, ↓rds4, ↓rds5, ↓rds6, ↓rds7, ↓rds8, ↓rds9, ↓rds10, ↓rds11, ↓rds12, List.set_cons_zero, List.set_cons_succ, ne_eq, not_false_eq_true, decide_eq_true_eq, Bool.or_true, Bool.or_false, Bool.true_or, Bool.false_or, Bool.and_true, Bool.true_and, Bool.and_false, Bool.false_and, Bool.not_true, Bool.not_false, reduceCtorEq, beq_self_eq_true, true_and, and_true]
    refine dIte_by (fun hk => ?_) fun hk => ?_
    · try simp -dsimp -implicitDefEqProofs only [↓rds1, ↓rds2, ↓rds3, ↓rds4, ↓rds5, ↓rds6, ↓rds7, ↓rds8, ↓rds9, ↓rds10, ↓rds11, ↓rds12, List.set_cons_zero, List.set_cons_succ, ne_eq, not_false_eq_true, decide_eq_true_eq, Bool.or_true, Bool.or_false, Bool.true_or, Bool.false_or, Bool.and_true, Bool.true_and, Bool.and_false, Bool.false_and, Bool.not_true, Bool.not_false, reduceCtorEq, beq_self_eq_true, true_and, and_true]
      refine cl_i ⟨rfl, p, q, cells, _, rfl, P1, by omega, log_small (by omega) (by omega), fun b s b0 b1 => ?_⟩
      rw [put_comm lp, put_put]
      have P2 : PoolAt (put (put h p (poolO q s)) l (.lst (ps.map prD))) p q cells := ⟨⟨s, by rw [put_ne lp.symm, put_same]⟩, by rw [put_ne lq.symm, put_ne P.ne]; exact P.cl, P.ne, P.ln⟩
      try simp -dsimp -implicitDefEqProofs only [↓rds1, ↓rds2, ↓rds3, ↓rds4, ↓rds5, ↓rds6, ↓rds7, ↓rds8, ↓rds9, ↓rds10, ↓rds11, ↓rds12, List.set_cons_zero, List.set_cons_succ, ne_eq, not_false_eq_true, decide_eq_true_eq, Bool.or_true, Bool.or_false, Bool.true_or, Bool.false_or, Bool.and_true, Bool.true_and, Bool.and_false, Bool.false_and, Bool.not_true, Bool.not_false, reduceCtorEq, beq_self_eq_true, true_and, and_true]
      refine cl_i ⟨rfl, p, q, cells, _, rfl, P2, by omega, log_small (by omega) (by omega), fun e s e0 e1 => ?_⟩
      rw [put_comm lp, put_put]
      try simp -dsimp -implicitDefEqProofs only [↓rds1, ↓rds2, ↓rds3, ↓rds4, ↓rds5, ↓rds6, ↓rds7, ↓rds8, ↓rds9, ↓rds10, ↓rds11, ↓rds12, List.set_cons_zero, List.set_cons_succ, ne_eq, not_false_eq_true, decide_eq_true_eq, Bool.or_true, Bool.or_false, Bool.true_or, Bool.false_or, Bool.and_true, Bool.true_and, Bool.and_false, Bool.false_and, Bool.not_true, Bool.not_false, reduceCtorEq, beq_self_eq_true, true_and, and_true]
      refine ⟨by omega, ?_⟩
      refine app s (b, (b + 1 + e) % (2 + k)) _ ?_ ⟨⟨by omega, by show b < _; omega⟩, Int.emod_nonneg _ (by omega), Int.lt_of_lt_of_le (Int.emod_lt_of_pos _ (by omega)) (by omega)⟩
      unfold prOk
      rw [if_pos hk]
      show b ≠ (b + 1 + e) % (2 + k)
      by_cases c : b + 1 + e < 2 + k
      · rw [Int.emod_eq_of_lt (by omega) c]; omega
      · have : (b + 1 + e) % (2 + k) = b + 1 + e - (2 + k) := by
          rw [← Int.sub_emod_right, Int.emod_eq_of_lt (by omega) (by omega)]
        rw [this]; omega
    · try simp -dsimp -implicitDefEqProofs only [↓rds1, ↓rds2, ↓rds3, ↓rds4, ↓rds5, ↓rds6, ↓rds7, ↓rds8, ↓rds9, ↓rds10, ↓rds11, ↓rds12, List.set_cons_zero, List.set_cons_succ, ne_eq, not_false_eq_true, decide_eq_true_eq, Bool.or_true, Bool.or_false, Bool.true_or, Bool.false_or, Bool.and_true, Bool.true_and, Bool.and_false, Bool.false_and, Bool.not_true, Bool.not_false, reduceCtorEq, beq_self_eq_true, true_and, and_true]
      refine cl_i ⟨rfl, p, q, cells, _, rfl, P1, by omega, log_small (by omega) (by omega), fun b s b0 b1 => ?_⟩
      rw [put_comm lp, put_put]
      have P2 : PoolAt (put (put h p (poolO q s)) l (.lst (ps.map prD))) p q cells := ⟨⟨s, by rw [put_ne lp.symm, put_same]⟩, by rw [put_ne lq.symm, put_ne P.ne]; exact P.cl, P.ne, P.ln⟩
      try simp -dsimp -implicitDefEqProofs only [↓rds1, ↓rds2, ↓rds3, ↓rds4, ↓rds5, ↓rds6, ↓rds7, ↓rds8, ↓rds9, ↓rds10, ↓rds11, ↓rds12, List.set_cons_zero, List.set_cons_succ, ne_eq, not_false_eq_true, decide_eq_true_eq, Bool.or_true, Bool.or_false, Bool.true_or, Bool.false_or, Bool.and_true, Bool.true_and, Bool.and_false, Bool.false_and, Bool.not_true, Bool.not_false, reduceCtorEq, beq_self_eq_true, true_and, and_true]
      refine cl_i ⟨rfl, p, q, cells, _, rfl, P2, by omega, log_small (by omega) (by omega), fun e s e0 e1 => ?_⟩
      rw [put_comm lp, put_put]
      try simp -dsimp -implicitDefEqProofs only [↓rds1, ↓rds2, ↓rds3, ↓rds4, ↓rds5, ↓rds6, ↓rds7, ↓rds8, ↓rds9, ↓rds10, ↓rds11, ↓rds12, List.set_cons_zero, List.set_cons_succ, ne_eq, not_false_eq_true, decide_eq_true_eq, Bool.or_true, Bool.or_false, Bool.true_or, Bool.false_or, Bool.and_true, Bool.true_and, Bool.and_false, Bool.false_and, Bool.not_true, Bool.not_false, reduceCtorEq, beq_self_eq_true, true_and, and_true]
      refine app s (b, b + 1 + e) _ ?_ ⟨⟨b0, by show b < _; omega⟩, by show 0 ≤ b + 1 + e; omega, by show b + 1 + e < _; omega⟩
      unfold prOk
      rw [if_neg hk]
      show b < b + 1 + e
      omega
  · rintro σ h' ⟨s, ps, v5, v6, rfl, rfl, hy, hp, hb⟩
    try simp -dsimp -implicitDefEqProofs only [↓rds1, ↓rds2, ↓rds3, ↓rds4, ↓rds5, ↓rds6, ↓rds7, ↓rds8, ↓rds9, ↓rds10, ↓rds11, ↓rds12, List.set_cons_zero, List.set_cons_succ, ne_eq, not_false_eq_true, decide_eq_true_eq, Bool.or_true, Bool.or_false, Bool.true_or, Bool.false_or, Bool.and_true, Bool.true_and, Bool.and_false, Bool.false_and, Bool.not_true, Bool.not_false, reduceCtorEq, beq_self_eq_true, true_and, and_true]
    refine finR (ret l s ps hl ?_ hp hb)
    rw [hy]
    unfold rangeD
    rw [List.length_map, List.length_range]
/-! ### the numbers of moments -/
def ded1 (acc : List Int) (x : Int) : List Int := if x ∈ acc then acc else acc ++ [x]
def ded (acc l : List Int) : List Int := l.foldl ded1 acc
theorem ded_mem : ∀ {l acc : List Int} {x : Int}, x ∈ ded acc l ↔ x ∈ acc ∨ x ∈ l
  | [], acc, x => by simp [ded]
  | y :: r, acc, x => by
    show x ∈ ded (ded1 acc y) r ↔ _
    rw [ded_mem]
    unfold ded1
    split
    · rename_i h
      constructor
      · rintro (a | a)
        · exact .inl a
        · exact .inr (List.mem_cons_of_mem _ a)
      · rintro (a | a)
        · exact .inl a
        · rcases List.mem_cons.mp a with e | a
          · subst e; exact .inl h
          · exact .inr a
    · constructor
      · rintro (a | a)
        · rcases List.mem_append.mp a with a | a
          · exact .inl a
          · rw [List.mem_singleton.mp a]; exact .inr List.mem_cons_self
        · exact .inr (List.mem_cons_of_mem _ a)
      · rintro (a | a)
        · exact .inl (List.mem_append_left _ a)
        · rcases List.mem_cons.mp a with e | a
          · subst e; exact .inl (List.mem_append_right _ (List.mem_singleton.mpr rfl))
          · exact .inr a
theorem ded_nodup : ∀ {l acc : List Int}, acc.Nodup → (ded acc l).Nodup
  | [], acc, h => h
  | y :: r, acc, h => by
    show (ded (ded1 acc y) r).Nodup
    refine ded_nodup ?_
    unfold ded1
    split
    · exact h
    · rename_i n
      rw [List.nodup_append]
      exact ⟨h, by simp, fun a ha b hb e => by rw [List.mem_singleton.mp hb] at e; subst e; exact n ha⟩
theorem ded_len : ∀ {l acc : List Int}, (ded acc l).length ≤ acc.length + l.length
  | [], acc => Nat.le_refl _
  | y :: r, acc => by
    show (ded (ded1 acc y) r).length ≤ _
    refine Nat.le_trans ded_len ?_
    unfold ded1
    split
    · rw [List.length_cons]; omega
    · rw [List.length_append, List.length_cons, List.length_cons, List.length_nil]; omega
def moms (ps : List Pr) : List Int := ps.flatMap fun p => [p.1, p.2]
def dedL (ps : List Pr) : List Int := ded [] (moms ps)
theorem moms_len : ∀ ps : List Pr, (moms ps).length = 2 * ps.length
  | [] => rfl
  | p :: r => by
    show (p.1 :: p.2 :: moms r).length = _
    rw [List.length_cons, List.length_cons, moms_len r, List.length_cons]; omega
theorem moms_snoc (ps : List Pr) (p : Pr) : moms (ps ++ [p]) = moms ps ++ [p.1, p.2] := by
  unfold moms
  rw [List.flatMap_append]
  rfl
theorem ded_snoc (l : List Int) (x y : Int) : ded [] (l ++ [x, y]) = ded1 (ded1 (ded [] l) x) y := by
  unfold ded
  rw [List.foldl_append]
  rfl
theorem mem_moms {ps : List Pr} {p : Pr} (h : p ∈ ps) : p.1 ∈ moms ps ∧ p.2 ∈ moms ps :=
  ⟨List.mem_flatMap.mpr ⟨p, h, List.mem_cons_self⟩, List.mem_flatMap.mpr ⟨p, h, List.mem_cons_of_mem _ List.mem_cons_self⟩⟩
theorem inL_ints (x : Int) (d : List Int) : inL (.v (.int x)) (intsD d) = decide (x ∈ d) := by
  unfold inL intsD
  rw [List.any_map, Bool.eq_iff_iff, List.any_eq_true, decide_eq_true_eq]
  constructor
  · rintro ⟨y, hy, e⟩
    have : eqD (.v (.int y)) (.v (.int x)) = true := e
    rw [eqD_int, decide_eq_true_eq] at this
    subst this
    exact hy
  · intro h
    exact ⟨x, h, by show eqD (.v (.int x)) (.v (.int x)) = true; rw [eqD_int]; exact decide_eq_true rfl⟩
/-- a moment's number -/
def nrm (d : List Int) (t x : Int) : Int := (((rk d x : Nat) : Int) - t) % ((d.length : Nat) : Int)
def turnOf (kind : Str) (ps : List Pr) : Int := if kind = "ring" then ((rk (dedL ps) (ps.headD (0, 0)).1 : Nat) : Int) else 0
def normF (kind : Str) (ps : List Pr) : List Pr := ps.map fun p => (nrm (dedL ps) (turnOf kind ps) p.1, nrm (dedL ps) (turnOf kind ps) p.2)
def sp_law_normal : SpD := fun ds h Q _ => ds.length = 2 ∧ ∃ (kind : Str) (a : Addr) (ps : List Pr), ds = [.v (.str kind), .v (.ref a)] ∧ h a = some (.lst (ps.map prD)) ∧ ps ≠ [] ∧ ps.length ≤ 1000 ∧ Q (.t ((normF kind ps).map prD)) h
def rd_law_normal (E : ER) : SD :=
  dSeq (dAsg (dLst (dNil)) (nG 2))
  (dSeq (dFor (iAnyD (dVar 1)) (nG 3) (dFor (iAnyD (dVar 3)) (nG 6) (dIfS (dTest (d2 pNotMem (dVar 6) (dVar 2))) (dDrop (dBM "list" mAppend (dVar 2) (dCons (dVar 6) (dNil)))) (dNext))))
  (dSeq (dAsg (dCB cSortedA (dCons (dVar 2) (dNil))) (nG 2))
  (dSeq (dAsg (dC (.v (.int 0))) (nG 4))
  (dSeq (dIfS (dTest (d2 pEqA (dVar 0) (dC (.v (.str "ring"))))) (dAsg (dBM "list" mIndex (dVar 2) (dCons (d2 pIt (d2 pIt (dVar 1) (dC (.v (.int 0)))) (dC (.v (.int 0)))) (dNil))) (nG 4)) (dNext))
  (dSeq (dAsg (dLst (dNil)) (nG 5))
  (dSeq (dFor (iAnyD (dVar 1)) (nG 3) (dSeq (dAsg (d2 pMod (dCB cInt (dCons (d2 pSub (dBM "list" mIndex (dVar 2) (dCons (d2 pIt (dVar 3) (dC (.v (.int 0)))) (dNil))) (dVar 4)) (dNil))) (dCB cLen (dCons (dVar 2) (dNil)))) (nG 7))
  (dDrop (dBM "list" mAppend (dVar 5) (dCons (dTup (dCons (dVar 7) (dCons (d2 pMod (dCB cInt (dCons (d2 pSub (dBM "list" mIndex (dVar 2) (dCons (d2 pIt (dVar 3) (dC (.v (.int 1)))) (dNil))) (dVar 4)) (dNil))) (dCB cLen (dCons (dVar 2) (dNil)))) (dNil)))) (dNil))))))
  (dRet (dCB cTuple (dCons (dVar 5) (dNil))))))))))
abbrev N_law_normal : List Str := ["kind", "pairs", "row", "pair", "turn", "found", "moment", "begin"]
theorem ok_law_normal : ∀ ds h Q E, sp_law_normal ds h Q E → rd_law_normal (fun x _ h' => E x h') (fin Q) (startD N_law_normal ds) h := by
  rintro ds h Q E ⟨_, kind, a, ps, rfl, ha, hne, hlen, ret⟩
  show rd_law_normal _ _ [some (.v (.str kind)), some (.v (.ref a)), none, none, none, none, none, none] h
  unfold rd_law_normal
  try simp -dsimp -implicitDefEqProofs only [↓rds1, ↓rds2, ↓rds3, ↓rds4, ↓rds5, ↓rds6, ↓rds7, ↓rds8, ↓rds9, ↓rds10, ↓rds11, ↓rds12, List.set_cons_zero, List.set_cons_succ, ne_eq, not_false_eq_true, decide_eq_true_eq, Bool.or_true, Bool.or_false, Bool.true_or, Bool.false_or, Bool.and_true, Bool.true_and, Bool.and_false, Bool.false_and, Bool.not_true, Bool.not_false, reduceCtorEq, beq_self_eq_true, true_and, and_true]
  refine al_i fun l hl => ?_
  have la : a ≠ l := fun e => by rw [← e, ha] at hl; cases hl
  try simp -dsimp -implicitDefEqProofs only [↓rds1, ↓rds2, ↓rds3, ↓rds4, ↓rds5, ↓rds6, ↓rds7, ↓rds8, ↓rds9, ↓rds10, ↓rds11, ↓rds12, List.set_cons_zero, List.set_cons_succ, ne_eq, not_false_eq_true, decide_eq_true_eq, Bool.or_true, Bool.or_false, Bool.true_or, Bool.false_or, Bool.and_true, Bool.true_and, Bool.and_false, Bool.false_and, Bool.not_true, Bool.not_false, reduceCtorEq, beq_self_eq_true, true_and, and_true, ha, la]
  have hA : ∀ o, rdL (put h l o) a = some (ps.map prD) := fun o => rdL_l (by rw [put_ne la]; exact ha)
  refine loop_of (fun i σ h' => h' = put h l (.lst (intsD (dedL (ps.take i)))) ∧ ∃ v3 v6, σ = [some (.v (.str kind)), some (.v (.ref a)), some (.v (.ref l)), v3, none, none, v6, none]) ⟨rfl, _, _, rfl⟩ (fun i σ h' _ ⟨e, _⟩ => by rw [e]; exact hA _) ?_ ?_
  · rintro i x σ h' hx ⟨rfl, v3, v6, rfl⟩ N hN
    obtain ⟨p, hp, rfl⟩ : ∃ p, ps[i]? = some p ∧ x = prD p := by
      rw [List.getElem?_map] at hx
      cases e : ps[i]? with
      | none => rw [e] at hx; cases hx
      | some p => rw [e] at hx; cases hx; exact ⟨p, rfl, rfl⟩
    have ht : ps.take (i + 1) = ps.take i ++ [p] := by rw [List.take_add_one, hp]; rfl
    have hN' := hN [some (.v (.str kind)), some (.v (.ref a)), some (.v (.ref l)), some (prD p), none, none, some (.v (.int p.2)), none] (put h l (.lst (intsD (ded1 (ded1 (dedL (ps.take i)) p.1) p.2)))) ⟨by unfold dedL; rw [ht, moms_snoc, ded_snoc], _, _, rfl⟩
    have hle : (dedL (ps.take i)).length ≤ 2000 := by
      refine Nat.le_trans ded_len ?_
      rw [List.length_nil, moms_len, List.length_take]
      omega
    clear hN
    generalize dedL (ps.take i) = d at *
    -- one moment
    have one : ∀ (d : List Int) (x : Int) (v6 : Option D) (K : Sd → Hd → Prop) (DD : EndsD), d.length ≤ 2001 → DD.nx = K → K [some (.v (.str kind)), some (.v (.ref a)), some (.v (.ref l)), some (prD p), none, none, some (.v (.int x)), none] (put h l (.lst (intsD (ded1 d x)))) →
        dIfS (dTest (d2 pNotMem (dVar 6) (dVar 2))) (dDrop (dBM "list" mAppend (dVar 2) (dCons (dVar 6) (dNil)))) (dNext) DD [some (.v (.str kind)), some (.v (.ref a)), some (.v (.ref l)), some (prD p), none, none, some (.v (.int x)), none] (put h l (.lst (intsD d))) := by
      intro d x v6 K DD hd hK k
      try simp -dsimp -implicitDefEqProofs only [↓rds1, ↓rds2, ↓rds3, ↓rds4, ↓rds5, ↓rds6, ↓rds7, ↓rds8, ↓rds9, ↓rds10, ↓rds11, ↓rds12, List.set_cons_zero, List.set_cons_succ, ne_eq, not_false_eq_true, decide_eq_true_eq, Bool.or_true, Bool.or_false, Bool.true_or, Bool.false_or, Bool.and_true, Bool.true_and, Bool.and_false, Bool.false_and, Bool.not_true, Bool.not_false, reduceCtorEq, beq_self_eq_true, true_and, and_true, inL_ints, ints_flat, if_true]
      refine ⟨rfl, dIte_by (fun c => ?_) fun c => ?_⟩
      · try simp -dsimp -implicitDefEqProofs only [↓rds1, ↓rds2, ↓rds3, ↓rds4, ↓rds5, ↓rds6, ↓rds7, ↓rds8, ↓rds9, ↓rds10, ↓rds11, ↓rds12, List.set_cons_zero, List.set_cons_succ, ne_eq, not_false_eq_true, decide_eq_true_eq, Bool.or_true, Bool.or_false, Bool.true_or, Bool.false_or, Bool.and_true, Bool.true_and, Bool.and_false, Bool.false_and, Bool.not_true, Bool.not_false, reduceCtorEq, beq_self_eq_true, true_and, and_true]
        have c' : x ∉ d := by simpa using c
        rw [hK]
        refine ⟨by rw [len_intsD]; exact Nat.lt_of_le_of_lt hd (by decide), ?_⟩
        unfold ded1 at k
        rw [if_neg c', ints_app, ints_one] at k
        exact k
      · try simp -dsimp -implicitDefEqProofs only [↓rds1, ↓rds2, ↓rds3, ↓rds4, ↓rds5, ↓rds6, ↓rds7, ↓rds8, ↓rds9, ↓rds10, ↓rds11, ↓rds12, List.set_cons_zero, List.set_cons_succ, ne_eq, not_false_eq_true, decide_eq_true_eq, Bool.or_true, Bool.or_false, Bool.true_or, Bool.false_or, Bool.and_true, Bool.true_and, Bool.and_false, Bool.false_and, Bool.not_true, Bool.not_false, reduceCtorEq, beq_self_eq_true, true_and, and_true]
        have c' : x ∈ d := by simpa using c
        rw [hK]
        unfold ded1 at k
        rw [if_pos c'] at k
        exact k
    try simp -dsimp -implicitDefEqProofs only [↓rds1, ↓rds2, ↓rds3, ↓rds4, ↓rds5, ↓rds6, ↓rds7, ↓rds8, ↓rds9, ↓rds10, ↓rds11, ↓rds12, List.set_cons_zero, List.set_cons_succ, ne_eq, not_false_eq_true, decide_eq_true_eq, Bool.or_true, Bool.or_false, Bool.true_or, Bool.false_or, Bool.and_true, Bool.true_and, Bool.and_false, Bool.false_and, Bool.not_true, Bool.not_false, reduceCtorEq, beq_self_eq_true, true_and, and_true, prD]
    refine ⟨trivial, ?_⟩
    refine one d p.1 none _ _ (by omega) rfl ?_
    refine ⟨trivial, ?_⟩
    refine one (ded1 d p.1) p.2 none _ _ (by unfold ded1; split; omega; rw [List.length_append]; simp only [List.length_cons, List.length_nil]; omega) rfl ?_
    refine ⟨trivial, ?_⟩
    exact hN'
  · rintro σ h' ⟨rfl, v3, v6, rfl⟩
    rw [List.length_map, List.take_length]
    have hd : (dedL ps).Nodup := ded_nodup List.nodup_nil
    have mem : ∀ p, p ∈ ps → p.1 ∈ dedL ps ∧ p.2 ∈ dedL ps := fun p hp => ⟨ded_mem.mpr (.inr (mem_moms hp).1), ded_mem.mpr (.inr (mem_moms hp).2)⟩
    have dl : (dedL ps).length ≤ 2000 := by
      refine Nat.le_trans ded_len ?_
      rw [List.length_nil, moms_len]
      omega
    obtain ⟨p0, pr, rfl⟩ : ∃ p r, ps = p :: r := by
      cases ps with
      | nil => exact (hne rfl).elim
      | cons p r => exact ⟨p, r, rfl⟩
    have ln : 0 < (dedL (p0 :: pr)).length := List.length_pos_of_mem (mem p0 List.mem_cons_self).1
    try simp -dsimp -implicitDefEqProofs only [↓rds1, ↓rds2, ↓rds3, ↓rds4, ↓rds5, ↓rds6, ↓rds7, ↓rds8, ↓rds9, ↓rds10, ↓rds11, ↓rds12, List.set_cons_zero, List.set_cons_succ, ne_eq, not_false_eq_true, decide_eq_true_eq, Bool.or_true, Bool.or_false, Bool.true_or, Bool.false_or, Bool.and_true, Bool.true_and, Bool.and_false, Bool.false_and, Bool.not_true, Bool.not_false, reduceCtorEq, beq_self_eq_true, true_and, and_true, intsOf_ints]
    refine srt_i fun l' hp hs => al_i fun l2 hl2 => ?_
    have l2l : l2 ≠ l := fun e => by rw [e, put_same] at hl2; cases hl2
    rw [put_ne l2l] at hl2
    have a2 : a ≠ l2 := fun e => by rw [← e, ha] at hl2; cases hl2
    have ix : ∀ x, x ∈ dedL (p0 :: pr) → ixD (.v (.int x)) (intsD l') = some (rk (dedL (p0 :: pr)) x) := fun x hx => by
      rw [ix_rk hs (hp.mem_iff.mpr hx), rk_perm hp]
    have len' : (intsD l').length = (dedL (p0 :: pr)).length := by rw [len_intsD, hp.length_eq]
    have fl := ints_flat l'
    -- the end, the turn told
    have tail : ∀ (DD : EndsD) (v3 v6 : Option D), DD.rt = (fin Q).rt → (dSeq (dAsg (dLst (dNil)) (nG 5))
        (dSeq (dFor (iAnyD (dVar 1)) (nG 3) (dSeq (dAsg (d2 pMod (dCB cInt (dCons (d2 pSub (dBM "list" mIndex (dVar 2) (dCons (d2 pIt (dVar 3) (dC (.v (.int 0)))) (dNil))) (dVar 4)) (dNil))) (dCB cLen (dCons (dVar 2) (dNil)))) (nG 7))
        (dDrop (dBM "list" mAppend (dVar 5) (dCons (dTup (dCons (dVar 7) (dCons (d2 pMod (dCB cInt (dCons (d2 pSub (dBM "list" mIndex (dVar 2) (dCons (d2 pIt (dVar 3) (dC (.v (.int 1)))) (dNil))) (dVar 4)) (dNil))) (dCB cLen (dCons (dVar 2) (dNil)))) (dNil)))) (dNil))))))
        (dRet (dCB cTuple (dCons (dVar 5) (dNil)))))) DD [some (.v (.str kind)), some (.v (.ref a)), some (.v (.ref l2)), v3, some (.v (.int (turnOf kind (p0 :: pr)))), none, v6, none] (put (put h l (.lst (intsD (dedL (p0 :: pr))))) l2 (.lst (intsD l'))) := by
      intro DD v3 v6 hD
      try simp -dsimp -implicitDefEqProofs only [↓rds1, ↓rds2, ↓rds3, ↓rds4, ↓rds5, ↓rds6, ↓rds7, ↓rds8, ↓rds9, ↓rds10, ↓rds11, ↓rds12, List.set_cons_zero, List.set_cons_succ, ne_eq, not_false_eq_true, decide_eq_true_eq, Bool.or_true, Bool.or_false, Bool.true_or, Bool.false_or, Bool.and_true, Bool.true_and, Bool.and_false, Bool.false_and, Bool.not_true, Bool.not_false, reduceCtorEq, beq_self_eq_true, true_and, and_true]
      refine al_i fun l5 hl5 => ?_
      have n52 : l5 ≠ l2 := fun e => by rw [e, put_same] at hl5; cases hl5
      rw [put_ne n52] at hl5
      have n5l : l5 ≠ l := fun e => by rw [e, put_same] at hl5; cases hl5
      rw [put_ne n5l] at hl5
      have na5 : a ≠ l5 := fun e => by rw [← e, ha] at hl5; cases hl5
      have hA2 : ∀ o, put (put (put h l (.lst (intsD (dedL (p0 :: pr))))) l2 (.lst (intsD l'))) l5 o a = some (.lst ((p0 :: pr).map prD)) := fun o => by rw [put_ne na5, put_ne a2, put_ne la]; exact ha
      have h2 : ∀ o, put (put (put h l (.lst (intsD (dedL (p0 :: pr))))) l2 (.lst (intsD l'))) l5 o l2 = some (.lst (intsD l')) := fun o => by rw [put_ne n52.symm, put_same]
      try simp -dsimp -implicitDefEqProofs only [↓rds1, ↓rds2, ↓rds3, ↓rds4, ↓rds5, ↓rds6, ↓rds7, ↓rds8, ↓rds9, ↓rds10, ↓rds11, ↓rds12, List.set_cons_zero, List.set_cons_succ, ne_eq, not_false_eq_true, decide_eq_true_eq, Bool.or_true, Bool.or_false, Bool.true_or, Bool.false_or, Bool.and_true, Bool.true_and, Bool.and_false, Bool.false_and, Bool.not_true, Bool.not_false, reduceCtorEq, beq_self_eq_true, true_and, and_true, hA2]
      refine loop_of (fun i σ h' => h' = put (put (put h l (.lst (intsD (dedL (p0 :: pr))))) l2 (.lst (intsD l'))) l5 (.lst ((normF kind (p0 :: pr)).take i |>.map prD)) ∧ ∃ v3 v7, σ = [some (.v (.str kind)), some (.v (.ref a)), some (.v (.ref l2)), v3, some (.v (.int (turnOf kind (p0 :: pr)))), some (.v (.ref l5)), v6, v7]) ⟨rfl, _, _, rfl⟩ (fun i σ h' _ ⟨e, _⟩ => by rw [e]; exact rdL_l (hA2 _)) ?_ ?_
      · rintro i x σ h' hx ⟨rfl, v3, v7, rfl⟩ N hN
        obtain ⟨p, hp', rfl⟩ : ∃ p, (p0 :: pr)[i]? = some p ∧ x = prD p := by
          rw [List.getElem?_map] at hx
          cases e : (p0 :: pr)[i]? with
          | none => rw [e] at hx; cases hx
          | some p => rw [e] at hx; cases hx; exact ⟨p, rfl, rfl⟩
        obtain ⟨m1, m2⟩ := mem p (List.mem_of_getElem? hp')
        have hi : i < (p0 :: pr).length := (List.getElem?_eq_some_iff.mp hp').1
        have e1 := ix _ m1
        have e2 := ix _ m2
        have hpos : (0 : Int) < ((dedL (p0 :: pr)).length : Int) := by omega
        try simp -dsimp -implicitDefEqProofs only [↓rds1, ↓rds2, ↓rds3, ↓rds4, ↓rds5, ↓rds6, ↓rds7, ↓rds8, ↓rds9, ↓rds10, ↓rds11, ↓rds12, List.set_cons_zero, List.set_cons_succ, ne_eq, not_false_eq_true, decide_eq_true_eq, Bool.or_true, Bool.or_false, Bool.true_or, Bool.false_or, Bool.and_true, Bool.true_and, Bool.and_false, Bool.false_and, Bool.not_true, Bool.not_false, reduceCtorEq, beq_self_eq_true, true_and, and_true, prD, h2, e1, e2, fl, len']
        refine ⟨rfl, hpos, rfl, hpos, ?_, ?_⟩
        · rw [List.length_map, List.length_take]
          exact Nat.lt_of_le_of_lt (Nat.min_le_left _ _) (Nat.lt_of_lt_of_le hi (Nat.le_trans hlen (by decide)))
        · refine hN _ _ ⟨?_, _, _, rfl⟩
          rw [List.take_add_one]
          unfold normF
          rw [List.getElem?_map, hp', List.map_append]
          rfl
      · rintro σ h' ⟨rfl, v3, v7, rfl⟩
        try simp -dsimp -implicitDefEqProofs only [↓rds1, ↓rds2, ↓rds3, ↓rds4, ↓rds5, ↓rds6, ↓rds7, ↓rds8, ↓rds9, ↓rds10, ↓rds11, ↓rds12, List.set_cons_zero, List.set_cons_succ, ne_eq, not_false_eq_true, decide_eq_true_eq, Bool.or_true, Bool.or_false, Bool.true_or, Bool.false_or, Bool.and_true, Bool.true_and, Bool.and_false, Bool.false_and, Bool.not_true, Bool.not_false, reduceCtorEq, beq_self_eq_true, true_and, and_true]
        rw [hD]
        have e : (normF kind (p0 :: pr)).take ((p0 :: pr).map prD).length = normF kind (p0 :: pr) := List.take_of_length_le (by unfold normF; rw [List.length_map, List.length_map]; exact Nat.le_refl _)
        rw [e]
        exact finI (((Sub.put hl).trans (Sub.put (by rw [put_ne l2l]; exact hl2))).trans (Sub.put (by rw [put_ne n52, put_ne n5l]; exact hl5))) ret
    try simp -dsimp -implicitDefEqProofs only [↓rds1, ↓rds2, ↓rds3, ↓rds4, ↓rds5, ↓rds6, ↓rds7, ↓rds8, ↓rds9, ↓rds10, ↓rds11, ↓rds12, List.set_cons_zero, List.set_cons_succ, ne_eq, not_false_eq_true, decide_eq_true_eq, Bool.or_true, Bool.or_false, Bool.true_or, Bool.false_or, Bool.and_true, Bool.true_and, Bool.and_false, Bool.false_and, Bool.not_true, Bool.not_false, reduceCtorEq, beq_self_eq_true, true_and, and_true]
    refine dIte_by (fun hk => ?_) fun hk => ?_
    · have e0 := ix _ (mem p0 List.mem_cons_self).1
      have hA3 : put (put h l (.lst (intsD (dedL (p0 :: pr))))) l2 (.lst (intsD l')) a = some (.lst ((p0 :: pr).map prD)) := by rw [put_ne a2, put_ne la]; exact ha
      try simp -dsimp -implicitDefEqProofs only [↓rds1, ↓rds2, ↓rds3, ↓rds4, ↓rds5, ↓rds6, ↓rds7, ↓rds8, ↓rds9, ↓rds10, ↓rds11, ↓rds12, List.set_cons_zero, List.set_cons_succ, ne_eq, not_false_eq_true, decide_eq_true_eq, Bool.or_true, Bool.or_false, Bool.true_or, Bool.false_or, Bool.and_true, Bool.true_and, Bool.and_false, Bool.false_and, Bool.not_true, Bool.not_false, reduceCtorEq, beq_self_eq_true, true_and, and_true, hA3, List.map_cons, prD, fl, e0]
      refine ⟨rfl, ?_⟩
      have t := tail (fin Q) v3 v6 rfl
      unfold turnOf at t
      rw [if_pos hk] at t
      exact t
    · have t := tail (fin Q) v3 v6 rfl
      unfold turnOf at t
      rw [if_neg hk] at t
      exact t
/-! ### figures -/
inductive Fg where
  | one (ps : List Pr)
  | two (ps qs : List Pr)
def figD : Fg → D
  | .one ps => .t (ps.map prD)
  | .two ps qs => .t [.t (ps.map prD), .t (qs.map prD)]
/-- a figure that was drawn -/
def FigOk (kind : Str) (count : Nat) : Fg → Prop
  | .one ps => (kind = "line" ∨ kind = "ring") ∧ ∃ ns : List Pr, ns.length = count ∧ (∀ x ∈ ns, prOk kind x) ∧ ps = normF kind ns
  | .two ps qs => kind = "box" ∧ (∃ ns : List Pr, ns.length = count ∧ (∀ x ∈ ns, prOk "line" x) ∧ ps = normF "line" ns) ∧ ∃ ns : List Pr, ns.length = count ∧ (∀ x ∈ ns, prOk "line" x) ∧ qs = normF "line" ns
def kds : List Str := ["line", "ring", "box"]
def sp_law_figure : SpD := fun ds h Q _ => ds.length = 3 ∧ ∃ (p q : Addr) (cells : List Int) (kind : Str) (count : Nat), ds = [.v (.ref p), .v (.str kind), .v (.int (count : Int))] ∧ PoolAt h p q cells ∧ 1 ≤ count ∧ count ≤ 1000 ∧ kind ∈ kds ∧
  ∀ (s : Int × Int × Int) (f : Fg), FigOk kind count f → Q (figD f) (put h p (poolO q s))
def rd_law_figure (E : ER) : SD :=
  dSeq (dIfS (dTest (d2 pEqA (dVar 1) (dC (.v (.str "box"))))) (dSeq (dAsg (dCall sp_law_normal E (dCons (dC (.v (.str "line"))) (dCons (dCall sp_law_pairs E (dCons (dVar 0) (dCons (dC (.v (.str "line"))) (dCons (dVar 2) (dNil))))) (dNil)))) (nG 3))
  (dRet (dTup (dCons (dVar 3) (dCons (dCall sp_law_normal E (dCons (dC (.v (.str "line"))) (dCons (dCall sp_law_pairs E (dCons (dVar 0) (dCons (dC (.v (.str "line"))) (dCons (dVar 2) (dNil))))) (dNil)))) (dNil)))))) (dNext))
  (dRet (dCall sp_law_normal E (dCons (dVar 1) (dCons (dCall sp_law_pairs E (dCons (dVar 0) (dCons (dVar 1) (dCons (dVar 2) (dNil))))) (dNil)))))
abbrev N_law_figure : List Str := ["pool", "kind", "count", "one"]
theorem ne_nil {α : Type} {l : List α} {n : Nat} (h : l.length = n) (h1 : 1 ≤ n) : l ≠ [] := fun e => by rw [e] at h; simp at h; omega
theorem ok_law_figure : ∀ ds h Q E, sp_law_figure ds h Q E → rd_law_figure (fun x _ h' => E x h') (fin Q) (startD N_law_figure ds) h := by
  rintro ds h Q E ⟨_, p, q, cells, kind, count, rfl, P, c1, c2, hk, ret⟩
  show rd_law_figure _ _ [some (.v (.ref p)), some (.v (.str kind)), some (.v (.int (count : Int))), none] h
  unfold rd_law_figure
  try simp -dsimp -implicitDefEqProofs only [↓rds1, ↓rds2, ↓rds3, ↓rds4, ↓rds5, ↓rds6, ↓rds7, ↓rds8, ↓rds9, ↓rds10, ↓rds11, ↓rds12, List.set_cons_zero, List.set_cons_succ, ne_eq, not_false_eq_true, decide_eq_true_eq, Bool.or_true, Bool.or_false, Bool.true_or, Bool.false_or, Bool.and_true, Bool.true_and, Bool.and_false, Bool.false_and, Bool.not_true, Bool.not_false, reduceCtorEq, beq_self_eq_true, true_and, and_true]
  refine dIte_by (fun k => ?_) fun k => ?_
  · subst k
    try simp -dsimp -implicitDefEqProofs only [↓rds1, ↓rds2, ↓rds3, ↓rds4, ↓rds5, ↓rds6, ↓rds7, ↓rds8, ↓rds9, ↓rds10, ↓rds11, ↓rds12, List.set_cons_zero, List.set_cons_succ, ne_eq, not_false_eq_true, decide_eq_true_eq, Bool.or_true, Bool.or_false, Bool.true_or, Bool.false_or, Bool.and_true, Bool.true_and, Bool.and_false, Bool.false_and, Bool.not_true, Bool.not_false, reduceCtorEq, beq_self_eq_true, true_and, and_true]
    refine cl_i ⟨rfl, p, q, cells, "line", count, rfl, P, c1, c2, fun l s ps hl hps hok _ => ?_⟩
    obtain ⟨lp, lq⟩ := pool_ne P hl
    try simp -dsimp -implicitDefEqProofs only [↓rds1, ↓rds2, ↓rds3, ↓rds4, ↓rds5, ↓rds6, ↓rds7, ↓rds8, ↓rds9, ↓rds10, ↓rds11, ↓rds12, List.set_cons_zero, List.set_cons_succ, ne_eq, not_false_eq_true, decide_eq_true_eq, Bool.or_true, Bool.or_false, Bool.true_or, Bool.false_or, Bool.and_true, Bool.true_and, Bool.and_false, Bool.false_and, Bool.not_true, Bool.not_false, reduceCtorEq, beq_self_eq_true, true_and, and_true]
    refine cl_i ⟨rfl, "line", l, ps, rfl, put_same, ne_nil hps c1, by omega, ?_⟩
    try simp -dsimp -implicitDefEqProofs only [↓rds1, ↓rds2, ↓rds3, ↓rds4, ↓rds5, ↓rds6, ↓rds7, ↓rds8, ↓rds9, ↓rds10, ↓rds11, ↓rds12, List.set_cons_zero, List.set_cons_succ, ne_eq, not_false_eq_true, decide_eq_true_eq, Bool.or_true, Bool.or_false, Bool.true_or, Bool.false_or, Bool.and_true, Bool.true_and, Bool.and_false, Bool.false_and, Bool.not_true, Bool.not_false, reduceCtorEq, beq_self_eq_true, true_and, and_true]
    have P1 : PoolAt (put (put h p (poolO q s)) l (.lst (ps.map prD))) p q cells := pool_keep (pool_put P s) (by rw [put_ne lp]; exact hl)
    refine cl_i ⟨rfl, p, q, cells, "line", count, rfl, P1, c1, c2, fun l2 s2 ps2 hl2 hps2 hok2 _ => ?_⟩
    obtain ⟨l2p, l2q⟩ := pool_ne P1 hl2
    have l2l : l2 ≠ l := fun e => by rw [e, put_same] at hl2; cases hl2
    rw [put_comm lp, put_put]
    try simp -dsimp -implicitDefEqProofs only [↓rds1, ↓rds2, ↓rds3, ↓rds4, ↓rds5, ↓rds6, ↓rds7, ↓rds8, ↓rds9, ↓rds10, ↓rds11, ↓rds12, List.set_cons_zero, List.set_cons_succ, ne_eq, not_false_eq_true, decide_eq_true_eq, Bool.or_true, Bool.or_false, Bool.true_or, Bool.false_or, Bool.and_true, Bool.true_and, Bool.and_false, Bool.false_and, Bool.not_true, Bool.not_false, reduceCtorEq, beq_self_eq_true, true_and, and_true]
    refine cl_i ⟨rfl, "line", l2, ps2, rfl, put_same, ne_nil hps2 c1, by omega, ?_⟩
    try simp -dsimp -implicitDefEqProofs only [↓rds1, ↓rds2, ↓rds3, ↓rds4, ↓rds5, ↓rds6, ↓rds7, ↓rds8, ↓rds9, ↓rds10, ↓rds11, ↓rds12, List.set_cons_zero, List.set_cons_succ, ne_eq, not_false_eq_true, decide_eq_true_eq, Bool.or_true, Bool.or_false, Bool.true_or, Bool.false_or, Bool.and_true, Bool.true_and, Bool.and_false, Bool.false_and, Bool.not_true, Bool.not_false, reduceCtorEq, beq_self_eq_true, true_and, and_true]
    have s1 : Sub (put h p (poolO q s2)) (put (put h p (poolO q s2)) l (.lst (ps.map prD))) := Sub.put (by rw [put_ne lp]; exact hl)
    have s2' : Sub (put (put h p (poolO q s2)) l (.lst (ps.map prD))) (put (put (put h p (poolO q s2)) l (.lst (ps.map prD))) l2 (.lst (ps2.map prD))) := Sub.put (by
      rw [put_ne l2l, put_ne l2p] at hl2
      rw [put_ne l2l, put_ne l2p]
      exact hl2)
    exact finI (s1.trans s2') (ret s2 (.two (normF "line" ps) (normF "line" ps2)) ⟨rfl, ⟨ps, hps, hok, rfl⟩, ps2, hps2, hok2, rfl⟩)
  · try simp -dsimp -implicitDefEqProofs only [↓rds1, ↓rds2, ↓rds3, ↓rds4, ↓rds5, ↓rds6, ↓rds7, ↓rds8, ↓rds9, ↓rds10, ↓rds11, ↓rds12, List.set_cons_zero, List.set_cons_succ, ne_eq, not_false_eq_true, decide_eq_true_eq, Bool.or_true, Bool.or_false, Bool.true_or, Bool.false_or, Bool.and_true, Bool.true_and, Bool.and_false, Bool.false_and, Bool.not_true, Bool.not_false, reduceCtorEq, beq_self_eq_true, true_and, and_true]
    refine cl_i ⟨rfl, p, q, cells, kind, count, rfl, P, c1, c2, fun l s ps hl hps hok _ => ?_⟩
    obtain ⟨lp, lq⟩ := pool_ne P hl
    try simp -dsimp -implicitDefEqProofs only [↓rds1, ↓rds2, ↓rds3, ↓rds4, ↓rds5, ↓rds6, ↓rds7, ↓rds8, ↓rds9, ↓rds10, ↓rds11, ↓rds12, List.set_cons_zero, List.set_cons_succ, ne_eq, not_false_eq_true, decide_eq_true_eq, Bool.or_true, Bool.or_false, Bool.true_or, Bool.false_or, Bool.and_true, Bool.true_and, Bool.and_false, Bool.false_and, Bool.not_true, Bool.not_false, reduceCtorEq, beq_self_eq_true, true_and, and_true]
    refine cl_i ⟨rfl, kind, l, ps, rfl, put_same, ne_nil hps c1, by omega, ?_⟩
    have hk2 : kind = "line" ∨ kind = "ring" := by
      simp only [kds, List.mem_cons, List.not_mem_nil, or_false] at hk
      rcases hk with e | e | e
      · exact .inl e
      · exact .inr e
      · exact absurd e k
    exact finI (Sub.put (by rw [put_ne lp]; exact hl)) (ret s (.one (normF kind ps)) ⟨hk2, ps, hps, hok, rfl⟩)
/-- names of a figure, the way of two of them -/
def pAt (ps : List Pr) (i : Nat) : Pr := ps.getD i (0, 0)
theorem at_pr {ps : List Pr} {i : Nat} (h : i < ps.length) : atI (ps.map prD) (i : Int) = some (.t [.v (.int (pAt ps i).1), .v (.int (pAt ps i).2)]) := by
  refine atI_nat ?_
  rw [List.getElem?_map, List.getElem?_eq_getElem h]
  unfold pAt
  rw [List.getD_eq_getElem?_getD, List.getElem?_eq_getElem h]
  rfl
def wayF (kind : Str) (f : Fg) (i j : Nat) : Str := match f with
  | .one ps => if kind = "ring" then cw (pAt ps i).1 (pAt ps i).2 (pAt ps j).1 (pAt ps j).2 else lw (pAt ps i).1 (pAt ps i).2 (pAt ps j).1 (pAt ps j).2
  | .two ps qs => lw (pAt ps i).1 (pAt ps i).2 (pAt ps j).1 (pAt ps j).2 ++ lw (pAt qs i).1 (pAt qs i).2 (pAt qs j).1 (pAt qs j).2
/-- a figure of the kind over so many names -/
def FigK (kind : Str) (count : Nat) : Fg → Prop
  | .one ps => (kind = "line" ∨ kind = "ring") ∧ ps.length = count
  | .two ps qs => kind = "box" ∧ ps.length = count ∧ qs.length = count
theorem FigOk.k {kind : Str} {count : Nat} : ∀ {f : Fg}, FigOk kind count f → FigK kind count f
  | .one _, ⟨h, ns, h1, _, e⟩ => ⟨h, by rw [e]; unfold normF; rw [List.length_map]; exact h1⟩
  | .two _ _, ⟨h, ⟨ns, h1, _, e⟩, ms, h2, _, e'⟩ => ⟨h, by rw [e]; unfold normF; rw [List.length_map]; exact h1, by rw [e']; unfold normF; rw [List.length_map]; exact h2⟩
theorem lw_len (a b c d : Int) : (lw a b c d).length = 1 := by
  unfold lw
  repeat' split
  all_goals decide
def sp_law_way : SpD := fun ds h Q _ => ds.length = 4 ∧ ∃ (kind : Str) (count : Nat) (f : Fg) (i j : Nat), ds = [.v (.str kind), figD f, .v (.int (i : Int)), .v (.int (j : Int))] ∧ FigK kind count f ∧ i < count ∧ j < count ∧ Q (.v (.str (wayF kind f i j))) h
def rd_law_way (E : ER) : SD :=
  dSeq (dIfS (dTest (d2 pEqA (dVar 0) (dC (.v (.str "ring"))))) (dRet (dCall sp_law_ring_way E (dCons (d2 pIt (dVar 1) (dVar 2)) (dCons (d2 pIt (dVar 1) (dVar 3)) (dNil))))) (dNext))
  (dSeq (dIfS (dTest (d2 pEqA (dVar 0) (dC (.v (.str "line"))))) (dRet (dCall sp_law_line_way E (dCons (d2 pIt (dVar 1) (dVar 2)) (dCons (d2 pIt (dVar 1) (dVar 3)) (dNil))))) (dNext))
  (dSeq (dAsg (dCall sp_law_line_way E (dCons (d2 pIt (d2 pIt (dVar 1) (dC (.v (.int 0)))) (dVar 2)) (dCons (d2 pIt (d2 pIt (dVar 1) (dC (.v (.int 0)))) (dVar 3)) (dNil)))) (nG 4))
  (dRet (d2 pAdd (dVar 4) (dCall sp_law_line_way E (dCons (d2 pIt (d2 pIt (dVar 1) (dC (.v (.int 1)))) (dVar 2)) (dCons (d2 pIt (d2 pIt (dVar 1) (dC (.v (.int 1)))) (dVar 3)) (dNil))))))))
abbrev N_law_way : List Str := ["kind", "figure", "first", "second", "one"]
theorem ok_law_way : ∀ ds h Q E, sp_law_way ds h Q E → rd_law_way (fun x _ h' => E x h') (fin Q) (startD N_law_way ds) h := by
  rintro ds h Q E ⟨_, kind, count, f, i, j, rfl, hf, hi, hj, ret⟩
  show rd_law_way _ _ [some (.v (.str kind)), some (figD f), some (.v (.int (i : Int))), some (.v (.int (j : Int))), none] h
  have rl : (("ring" : Str) = "line") = False := by decide
  have lr : (("line" : Str) = "ring") = False := by decide
  have br : (("box" : Str) = "ring") = False := by decide
  have bl : (("box" : Str) = "line") = False := by decide
  unfold rd_law_way
  cases f with
  | one ps =>
    obtain ⟨hk, hl⟩ := hf
    have e1 := at_pr (ps := ps) (i := i) (by omega)
    have e2 := at_pr (ps := ps) (i := j) (by omega)
    rcases hk with rfl | rfl
    · try simp -dsimp -implicitDefEqProofs only [↓rds1, ↓rds2, ↓rds3, ↓rds4, ↓rds5, ↓rds6, ↓rds7, ↓rds8, ↓rds9, ↓rds10, ↓rds11, ↓rds12, List.set_cons_zero, List.set_cons_succ, ne_eq, not_false_eq_true, decide_eq_true_eq, Bool.or_true, Bool.or_false, Bool.true_or, Bool.false_or, Bool.and_true, Bool.true_and, Bool.and_false, Bool.false_and, Bool.not_true, Bool.not_false, reduceCtorEq, beq_self_eq_true, true_and, and_true, figD, lr, e1, e2]
      refine cl_i ⟨rfl, _, _, _, _, rfl, ?_⟩
      exact finR ret
    · try simp -dsimp -implicitDefEqProofs only [↓rds1, ↓rds2, ↓rds3, ↓rds4, ↓rds5, ↓rds6, ↓rds7, ↓rds8, ↓rds9, ↓rds10, ↓rds11, ↓rds12, List.set_cons_zero, List.set_cons_succ, ne_eq, not_false_eq_true, decide_eq_true_eq, Bool.or_true, Bool.or_false, Bool.true_or, Bool.false_or, Bool.and_true, Bool.true_and, Bool.and_false, Bool.false_and, Bool.not_true, Bool.not_false, reduceCtorEq, beq_self_eq_true, true_and, and_true, figD, e1, e2]
      refine cl_i ⟨rfl, _, _, _, _, rfl, ?_⟩
      exact finR ret
  | two ps qs =>
    obtain ⟨rfl, hl, hl'⟩ := hf
    have e1 := at_pr (ps := ps) (i := i) (by omega)
    have e2 := at_pr (ps := ps) (i := j) (by omega)
    have e3 := at_pr (ps := qs) (i := i) (by omega)
    have e4 := at_pr (ps := qs) (i := j) (by omega)
    try simp -dsimp -implicitDefEqProofs only [↓rds1, ↓rds2, ↓rds3, ↓rds4, ↓rds5, ↓rds6, ↓rds7, ↓rds8, ↓rds9, ↓rds10, ↓rds11, ↓rds12, List.set_cons_zero, List.set_cons_succ, ne_eq, not_false_eq_true, decide_eq_true_eq, Bool.or_true, Bool.or_false, Bool.true_or, Bool.false_or, Bool.and_true, Bool.true_and, Bool.and_false, Bool.false_and, Bool.not_true, Bool.not_false, reduceCtorEq, beq_self_eq_true, true_and, and_true, figD, br, bl, e1, e2, e3, e4]
    refine cl_i ⟨rfl, _, _, _, _, rfl, ?_⟩
    try simp -dsimp -implicitDefEqProofs only [↓rds1, ↓rds2, ↓rds3, ↓rds4, ↓rds5, ↓rds6, ↓rds7, ↓rds8, ↓rds9, ↓rds10, ↓rds11, ↓rds12, List.set_cons_zero, List.set_cons_succ, ne_eq, not_false_eq_true, decide_eq_true_eq, Bool.or_true, Bool.or_false, Bool.true_or, Bool.false_or, Bool.and_true, Bool.true_and, Bool.and_false, Bool.false_and, Bool.not_true, Bool.not_false, reduceCtorEq, beq_self_eq_true, true_and, and_true, figD, e1, e2, e3, e4]
    refine cl_i ⟨rfl, _, _, _, _, rfl, ?_⟩
    try simp -dsimp -implicitDefEqProofs only [↓rds1, ↓rds2, ↓rds3, ↓rds4, ↓rds5, ↓rds6, ↓rds7, ↓rds8, ↓rds9, ↓rds10, ↓rds11, ↓rds12, List.set_cons_zero, List.set_cons_succ, ne_eq, not_false_eq_true, decide_eq_true_eq, Bool.or_true, Bool.or_false, Bool.true_or, Bool.false_or, Bool.and_true, Bool.true_and, Bool.and_false, Bool.false_and, Bool.not_true, Bool.not_false, reduceCtorEq, beq_self_eq_true, true_and, and_true, lw_len]
    exact ⟨by decide, finR ret⟩
end DL
/-! DLy: sets of moments, figures' numbers -/
namespace DL
open PySem L2
theorem rl : (("ring" : Str) = "line") = False := by decide
theorem lr : (("line" : Str) = "ring") = False := by decide
theorem br : (("box" : Str) = "ring") = False := by decide
theorem bl : (("box" : Str) = "line") = False := by decide
theorem rb : (("ring" : Str) = "box") = False := by decide
theorem lb : (("line" : Str) = "box") = False := by decide
theorem join_two (a b : Str) : Txt.join "" [a, b] = a ++ b := by
  show a ++ ("" : Str) ++ b = a ++ b
  have : a ++ ("" : Str) = a := by
    show (⟨a.cps ++ ("" : Str).cps⟩ : Str) = a
    have e : ("" : Str).cps = #[] := by decide
    rw [e, Array.append_empty]
  rw [this]
def keysB (d : List Int) : List (Key × D) := d.map fun x => (.inl x, .v (.bl true))
theorem valB (d : List Int) (x : Int) : valD (keysB d) (.inl x) = if x ∈ d then some (.v (.bl true)) else none := by
  induction d with
  | nil => rfl
  | cons y r ih =>
    show (if (Sum.inl y : Key) = .inl x then some (D.v (.bl true)) else valD (keysB r) (.inl x)) = _
    by_cases e : y = x
    · subst e
      rw [if_pos rfl, if_pos List.mem_cons_self]
    · rw [if_neg (fun z => e (Sum.inl.inj z)), ih]
      by_cases c : x ∈ r
      · rw [if_pos c, if_pos (List.mem_cons_of_mem _ c)]
      · rw [if_neg c, if_neg (fun z => by rcases List.mem_cons.mp z with z | z; exact e z.symm; exact c z)]
theorem putB (d : List Int) (x : Int) : putD (keysB d) (.inl x) (.v (.bl true)) = keysB (ded1 d x) := by
  unfold putD ded1
  rw [valB]
  by_cases c : x ∈ d
  · rw [if_pos c, if_pos c, if_pos (show (some (D.v (.bl true))).isSome = true from rfl)]
    unfold keysB
    rw [List.map_map]
    refine List.map_congr_left fun y _ => ?_
    show (if (Sum.inl y : Key) = .inl x then (Sum.inl y, D.v (.bl true)) else (Sum.inl y, D.v (.bl true))) = _
    split <;> rfl
  · rw [if_neg c, if_neg c, if_neg (by simp)]
    unfold keysB
    rw [List.map_append]
    rfl
theorem php : ∀ (m : Nat) (l : List Int), l.Nodup → (∀ x, x ∈ l → 0 ≤ x ∧ x < (m : Int)) → l.length ≤ m
  | 0, l, _, h => by
    cases l with
    | nil => exact Nat.le_refl _
    | cons x r => have := h x List.mem_cons_self; omega
  | m + 1, l, hd, h => by
    by_cases c : (m : Int) ∈ l
    · have h1 := php m (l.erase (m : Int)) (hd.erase _) fun x hx => by
        have hm := (hd.mem_erase_iff.mp hx)
        have := h x hm.2
        have := hm.1
        omega
      have h2 := List.length_erase_of_mem c
      have h3 := List.length_pos_of_mem c
      omega
    · have h1 := php m l hd fun x hx => by
        have := h x hx
        have : x ≠ (m : Int) := fun e => c (e ▸ hx)
        omega
      omega
theorem nrm_inj {d : List Int} {t x y : Int} (hx : x ∈ d) (hy : y ∈ d) (e : nrm d t x = nrm d t y) : x = y := by
  have r : ∀ u v, u ∈ d → v ∈ d → rk d u = rk d v → u = v := fun u v hu hv e => by
    rcases Int.lt_trichotomy u v with c | c | c
    · have := rk_lt hu c; omega
    · exact c
    · have := rk_lt hv c; omega
  have h1 := rk_lt4 hx
  have h2 := rk_lt4 hy
  refine r x y hx hy ?_
  unfold nrm at e
  rw [Int.emod_eq_emod_iff_emod_sub_eq_zero] at e
  have e2 : ((rk d x : Nat) : Int) - t - (((rk d y : Nat) : Int) - t) = ((rk d x : Nat) : Int) - (rk d y : Nat) := by omega
  rw [e2] at e
  have e3 := Int.emod_eq_zero_of_dvd (Int.dvd_of_emod_eq_zero e)
  by_cases c : rk d y ≤ rk d x
  · rw [Int.emod_eq_of_lt (by omega) (by omega)] at e
    omega
  · have e4 : (((rk d y : Nat) : Int) - (rk d x : Nat)) % ((d.length : Nat) : Int) = 0 := by
      refine Int.emod_eq_zero_of_dvd ?_
      have := Int.dvd_of_emod_eq_zero e
      have e5 : ((rk d y : Nat) : Int) - (rk d x : Nat) = -(((rk d x : Nat) : Int) - (rk d y : Nat)) := by omega
      rw [e5]
      exact Int.dvd_neg.mpr this
    rw [Int.emod_eq_of_lt (by omega) (by omega)] at e4
    omega
theorem moms_map (f : Int → Int) (ps : List Pr) : moms (ps.map fun p => (f p.1, f p.2)) = (moms ps).map f := by
  induction ps with
  | nil => rfl
  | cons p r ih =>
    show f p.1 :: f p.2 :: moms (r.map fun p => (f p.1, f p.2)) = _
    rw [ih]
    rfl
theorem ded_map {f : Int → Int} : ∀ {l acc : List Int}, (∀ x y, (x ∈ acc ∨ x ∈ l) → (y ∈ acc ∨ y ∈ l) → f x = f y → x = y) → ded (acc.map f) (l.map f) = (ded acc l).map f
  | [], acc, _ => rfl
  | y :: r, acc, h => by
    show ded (ded1 (acc.map f) (f y)) (r.map f) = (ded (ded1 acc y) r).map f
    have e : ded1 (acc.map f) (f y) = (ded1 acc y).map f := by
      unfold ded1
      by_cases c : y ∈ acc
      · rw [if_pos c, if_pos (List.mem_map.mpr ⟨y, c, rfl⟩)]
      · rw [if_neg c, if_neg (fun z => by
          obtain ⟨u, hu, e⟩ := List.mem_map.mp z
          have := h u y (.inl hu) (.inr List.mem_cons_self) e
          subst this
          exact c hu), List.map_append]
        rfl
    rw [e]
    refine ded_map fun u v hu hv => h u v ?_ ?_
    · rcases hu with hu | hu
      · unfold ded1 at hu
        split at hu
        · exact .inl hu
        · rcases List.mem_append.mp hu with hu | hu
          · exact .inl hu
          · rw [List.mem_singleton.mp hu]; exact .inr List.mem_cons_self
      · exact .inr (List.mem_cons_of_mem _ hu)
    · rcases hv with hu | hu
      · unfold ded1 at hu
        split at hu
        · exact .inl hu
        · rcases List.mem_append.mp hu with hu | hu
          · exact .inl hu
          · rw [List.mem_singleton.mp hu]; exact .inr List.mem_cons_self
      · exact .inr (List.mem_cons_of_mem _ hu)
theorem dedL_norm (kind : Str) (ns : List Pr) : dedL (normF kind ns) = (dedL ns).map (nrm (dedL ns) (turnOf kind ns)) := by
  unfold normF
  have e := moms_map (nrm (dedL ns) (turnOf kind ns)) ns
  show ded [] (moms _) = _
  rw [e]
  have := ded_map (f := nrm (dedL ns) (turnOf kind ns)) (l := moms ns) (acc := []) fun x y hx hy e => by
    have hx' : x ∈ dedL ns := ded_mem.mpr hx
    have hy' : y ∈ dedL ns := ded_mem.mpr hy
    exact nrm_inj hx' hy' e
  exact this
/-- one more than the greatest is their number -/
theorem moments_eq {kind : Str} {ns : List Pr} (hne : ns ≠ []) : 1 + maxI ((normF kind ns).map fun p => maxI [p.1, p.2]) = (((dedL (normF kind ns)).length : Nat) : Int) := by
  have hF : normF kind ns ≠ [] := by unfold normF; exact fun e => hne (List.map_eq_nil_iff.mp e)
  have hn : (dedL (normF kind ns)).length = (dedL ns).length := by rw [dedL_norm, List.length_map]
  have hnd : (dedL (normF kind ns)).Nodup := ded_nodup List.nodup_nil
  have rng : ∀ x, x ∈ dedL (normF kind ns) → 0 ≤ x ∧ x < ((dedL ns).length : Int) := fun x hx => by
    rw [dedL_norm] at hx
    obtain ⟨u, hu, rfl⟩ := List.mem_map.mp hx
    have hp := List.length_pos_of_mem hu
    exact ⟨Int.emod_nonneg _ (by omega), Int.emod_lt_of_pos _ (by omega)⟩
  have M1 := maxI_mem (ns := (normF kind ns).map fun p => maxI [p.1, p.2]) (fun e => hF (List.map_eq_nil_iff.mp e))
  obtain ⟨p, hp, ep⟩ := List.mem_map.mp M1
  have up : ∀ x, x ∈ dedL (normF kind ns) → x ≤ maxI ((normF kind ns).map fun p => maxI [p.1, p.2]) := fun x hx => by
    have hx := ded_mem.mp hx
    rcases hx with hx | hx
    · cases hx
    · obtain ⟨p, hp, hx⟩ := List.mem_flatMap.mp hx
      refine Int.le_trans (maxI_ge hx) (maxI_ge (List.mem_map.mpr ⟨p, hp, rfl⟩))
  have mm : maxI [p.1, p.2] ∈ dedL (normF kind ns) := by
    refine ded_mem.mpr (.inr (List.mem_flatMap.mpr ⟨p, hp, maxI_mem (by simp)⟩))
  have r1 := rng _ mm
  rw [ep] at r1
  have := php (maxI ((normF kind ns).map fun p => maxI [p.1, p.2]) + 1).toNat _ hnd fun x hx => ⟨(rng x hx).1, by have := up x hx; omega⟩
  omega
theorem norm_facts {kind : Str} {count : Nat} {ns : List Pr} (h : ns.length = count) (c1 : 1 ≤ count) (c2 : count ≤ 1000) : normF kind ns ≠ [] ∧ (normF kind ns).length ≤ 1000 := by
  have : (normF kind ns).length = count := by unfold normF; rw [List.length_map]; exact h
  exact ⟨ne_nil this c1, by omega⟩
/-! ### dict comprehensions, item by item -/
theorem dcm_of {g : GD} {tt : TD} {tk tv : ED} {chk : Hd → Prop} {items : List D} {σ : Sd} {h : Hd} {Q : List (Key × D) → Hd → Prop} {b : BxD Q} (A : Nat → List (Key × D)) (h0 : A 0 = []) (hc : chk h)
    (step : ∀ i x, items[i]? = some x → ∀ (S : List (Key × D) → Hd → Prop) (N : Hd → Prop), S (A (i + 1)) h → g x σ h fun σ2 h2 => tt σ2 h2 fun c h3 => dIte (c = true) (tk σ2 h3 fun y h4 => tv σ2 h4 fun z h5 => mO (keyD y) fun key => (A i).length < sizeLine ∧ S (putD (A i) key z) h5) (N h3) .mk)
    (q : Q (A items.length) h) : dcm g tt tk tv chk items σ h Q b := by
  suffices ∀ (l : List D) (k : Nat), l = items.drop k → k ≤ items.length → dDComp g tt tk tv chk l (A k) σ h Q by
    have := this items 0 rfl (Nat.zero_le _)
    rw [h0] at this
    exact this
  intro l
  induction l with
  | nil =>
    intro k e hk
    have h1 : items.length ≤ k := by
      have := congrArg List.length e
      rw [List.length_nil, List.length_drop] at this
      omega
    have : k = items.length := by omega
    subst this
    exact ⟨hc, q⟩
  | cons x r ih =>
    intro k e hk
    have hlt : k < items.length := by
      have := congrArg List.length e
      rw [List.length_cons, List.length_drop] at this
      omega
    rw [List.drop_eq_getElem_cons hlt] at e
    injection e with e3 e4
    exact ⟨hc, step k x (by rw [e3]; exact List.getElem?_eq_getElem hlt) (fun a h' => dDComp g tt tk tv chk r a σ h' Q) _ (ih (k + 1) e4 hlt)⟩
theorem dcm2_of {g : GD} {tt : TD} {wi1 : ID} {g1 : GD} {tt1 : TD} {tk tv : ED} {vs1 : List Nat} {chk : Hd → Prop} {items : List D} {σ : Sd} {h : Hd} {Q : List (Key × D) → Hd → Prop} {b : BxD Q} (A : Nat → List (Key × D)) (h0 : A 0 = []) (hc : chk h)
    (step : ∀ i x, items[i]? = some x → ∀ (S : List (Key × D) → Hd → Prop) (N : Hd → Prop), S (A (i + 1)) h → g x σ h fun σ2 h2 => tt σ2 h2 fun c h3 => dIte (c = true) (wi1 σ2 h3 fun items1 chk1 h4 => dDComp g1 tt1 tk tv chk1 items1 (A i) (wD σ2 vs1) h4 S) (N h3) .mk)
    (q : Q (A items.length) h) : dcm2 g tt wi1 g1 tt1 tk tv vs1 chk items σ h Q b := by
  suffices ∀ (l : List D) (k : Nat), l = items.drop k → k ≤ items.length → dDComp2 g tt wi1 g1 tt1 tk tv vs1 chk l (A k) σ h Q by
    have := this items 0 rfl (Nat.zero_le _)
    rw [h0] at this
    exact this
  intro l
  induction l with
  | nil =>
    intro k e hk
    have h1 : items.length ≤ k := by
      have := congrArg List.length e
      rw [List.length_nil, List.length_drop] at this
      omega
    have : k = items.length := by omega
    subst this
    exact ⟨hc, q⟩
  | cons x r ih =>
    intro k e hk
    have hlt : k < items.length := by
      have := congrArg List.length e
      rw [List.length_cons, List.length_drop] at this
      omega
    rw [List.drop_eq_getElem_cons hlt] at e
    injection e with e3 e4
    exact ⟨hc, step k x (by rw [e3]; exact List.getElem?_eq_getElem hlt) (fun a h' => dDComp2 g tt wi1 g1 tt1 tk tv vs1 chk r a σ h' Q) _ (ih (k + 1) e4 hlt)⟩
/-! ### ranks under a cut -/
/-- from c on upward first, then what is less than c -/
def Cut (d : List Int) (c : Int) (g : Int → Int) : Prop := ∀ x y, x ∈ d → y ∈ d → (g x < g y ↔ (if x < c then (y < c ∧ x < y) else (y < c ∨ x < y)))
theorem Cut.inj {d : List Int} {c : Int} {g : Int → Int} (C : Cut d c g) {x y : Int} (hx : x ∈ d) (hy : y ∈ d) (e : g x = g y) : x = y := by
  have h1 := C x y hx hy
  have h2 := C y x hy hx
  rw [e] at h1 h2
  have h1 := mt h1.mpr (Int.lt_irrefl _)
  have h2 := mt h2.mpr (Int.lt_irrefl _)
  split at h1 <;> split at h2 <;> omega
theorem rk_map (d : List Int) (g : Int → Int) (v : Int) : rk (d.map g) v = (d.filter fun y => decide (g y < v)).length := by
  unfold rk
  rw [List.filter_map, List.length_map]
  rfl
theorem rk_cut : ∀ {d e : List Int} {c : Int} {g : Int → Int} {x : Int}, Cut e c g → (∀ y ∈ d, y ∈ e) → x ∈ e → ((rk (d.map g) (g x) : Nat) : Int) = ((rk d x : Nat) : Int) - (rk d c : Nat) + (if x < c then (d.length : Int) else 0)
  | [], e, c, g, x, _, _, _ => by
    show ((0 : Nat) : Int) = ((0 : Nat) : Int) - (0 : Nat) + (if x < c then ((0 : Nat) : Int) else 0)
    split <;> rfl
  | z :: r, e, c, g, x, C, hd, hx => by
    have ih := rk_cut (d := r) C (fun y hy => hd y (List.mem_cons_of_mem _ hy)) hx
    have h1 := C z x (hd z List.mem_cons_self) hx
    rw [rk_map] at ih ⊢
    unfold rk at ih ⊢
    rw [List.filter_cons, List.filter_cons, List.filter_cons, List.length_cons]
    by_cases k1 : z < c <;> by_cases k2 : x < c <;> by_cases k3 : z < x <;> simp only [k1, k2, k3, if_true, if_false, true_and, false_and, and_true, and_false, or_true, or_false, true_or, false_or, iff_true, iff_false] at h1 ih ⊢ <;> simp only [h1, decide_true, decide_false, if_true, if_false, List.length_cons, Bool.false_eq_true] <;> omega
/-- the number of a moment is told by the cut alone -/
theorem nrm_cut {d : List Int} {c : Int} {g : Int → Int} {s x : Int} (C : Cut d c g) (hs : s ∈ d) (hx : x ∈ d) : nrm (d.map g) ((rk (d.map g) (g s) : Nat) : Int) (g x) = nrm d ((rk d s : Nat) : Int) x := by
  unfold nrm
  rw [rk_cut C (fun _ h => h) hs, rk_cut C (fun _ h => h) hx, List.length_map]
  have : ((rk d x : Nat) : Int) - (rk d c : Nat) + (if x < c then (d.length : Int) else 0) - (((rk d s : Nat) : Int) - (rk d c : Nat) + (if s < c then (d.length : Int) else 0)) = ((rk d x : Nat) : Int) - (rk d s : Nat) + ((if x < c then (d.length : Int) else 0) - (if s < c then (d.length : Int) else 0)) := by omega
  rw [this]
  split <;> split
  · rw [Int.sub_self, Int.add_zero]
  · rw [Int.sub_zero, Int.add_emod_right]
  · rw [Int.zero_sub, ← Int.sub_eq_add_neg, Int.sub_emod_right]
  · rw [Int.sub_self, Int.add_zero]
theorem nrm_line {d : List Int} {c : Int} {g : Int → Int} {x : Int} (C : Cut d c g) (hx : x ∈ d) : nrm (d.map g) 0 (g x) = nrm d ((rk d c : Nat) : Int) x := by
  unfold nrm
  rw [rk_cut C (fun _ h => h) hx, List.length_map]
  split
  · rw [Int.sub_zero, Int.add_emod_right]
  · rw [Int.sub_zero, Int.add_zero]
theorem low_ex : ∀ d : List Int, ∃ c : Int, ∀ x ∈ d, c ≤ x
  | [] => ⟨0, fun _ h => by cases h⟩
  | y :: r => by
    obtain ⟨c, hc⟩ := low_ex r
    by_cases k : c ≤ y
    · exact ⟨c, fun x hx => by rcases List.mem_cons.mp hx with e | hx; omega; exact hc x hx⟩
    · exact ⟨y, fun x hx => by rcases List.mem_cons.mp hx with e | hx; omega; have := hc x hx; omega⟩
def Asc (d : List Int) (g : Int → Int) : Prop := ∀ x y, x ∈ d → y ∈ d → (g x < g y ↔ x < y)
theorem Asc.cut {d : List Int} {g : Int → Int} (A : Asc d g) : ∃ c, Cut d c g ∧ rk d c = 0 := by
  obtain ⟨c, hc⟩ := low_ex d
  refine ⟨c, fun x y hx hy => ?_, ?_⟩
  · have := hc x hx
    have := hc y hy
    rw [A x y hx hy, if_neg (by omega)]
    constructor
    · exact .inr
    · rintro (h | h)
      · omega
      · exact h
  · unfold rk
    rw [List.length_eq_zero_iff, List.filter_eq_nil_iff]
    intro x hx z
    have := hc x hx
    have := of_decide_eq_true z
    omega
def map2 (g : Int → Int) (ns : List Pr) : List Pr := ns.map fun p => (g p.1, g p.2)
theorem mem_dedL {ns : List Pr} {p : Pr} (h : p ∈ ns) : p.1 ∈ dedL ns ∧ p.2 ∈ dedL ns := ⟨ded_mem.mpr (.inr (mem_moms h).1), ded_mem.mpr (.inr (mem_moms h).2)⟩
theorem dedL_map2 {ns : List Pr} {g : Int → Int} (inj : ∀ x y, x ∈ dedL ns → y ∈ dedL ns → g x = g y → x = y) : dedL (map2 g ns) = (dedL ns).map g := by
  unfold map2 dedL
  rw [moms_map]
  refine ded_map (acc := []) fun x y hx hy e => inj x y ?_ ?_ e
  · exact ded_mem.mpr (by rcases hx with h | h; cases h; exact .inr h)
  · exact ded_mem.mpr (by rcases hy with h | h; cases h; exact .inr h)
theorem ring_cut {ns : List Pr} {c : Int} {g : Int → Int} (C : Cut (dedL ns) c g) (hne : ns ≠ []) : normF "ring" (map2 g ns) = normF "ring" ns := by
  obtain ⟨p0, pr, rfl⟩ : ∃ p r, ns = p :: r := by
    cases ns with
    | nil => exact (hne rfl).elim
    | cons p r => exact ⟨p, r, rfl⟩
  have e := dedL_map2 (ns := p0 :: pr) (g := g) fun x y hx hy e => C.inj hx hy e
  have m0 := (mem_dedL (ns := p0 :: pr) List.mem_cons_self).1
  unfold normF turnOf
  rw [if_pos rfl, if_pos rfl, e]
  unfold map2
  rw [List.map_map]
  refine List.map_congr_left fun p hp => ?_
  show (nrm _ ((rk _ (g p0.1) : Nat) : Int) (g p.1), nrm _ ((rk _ (g p0.1) : Nat) : Int) (g p.2)) = _
  rw [nrm_cut C m0 (mem_dedL hp).1, nrm_cut C m0 (mem_dedL hp).2]
  rfl
theorem turn_line (ns : List Pr) : turnOf "line" ns = 0 := by
  unfold turnOf
  rw [if_neg (by decide)]
theorem line_cut {ns : List Pr} {c : Int} {g : Int → Int} (C : Cut (dedL ns) c g) : normF "line" (map2 g ns) = ns.map fun p => (nrm (dedL ns) ((rk (dedL ns) c : Nat) : Int) p.1, nrm (dedL ns) ((rk (dedL ns) c : Nat) : Int) p.2) := by
  have e := dedL_map2 (ns := ns) (g := g) fun x y hx hy e => C.inj hx hy e
  unfold normF
  rw [turn_line, e]
  unfold map2
  rw [List.map_map]
  refine List.map_congr_left fun p hp => ?_
  show (nrm _ 0 (g p.1), nrm _ 0 (g p.2)) = _
  rw [nrm_line C (mem_dedL hp).1, nrm_line C (mem_dedL hp).2]
theorem line_asc {ns : List Pr} {g : Int → Int} (A : Asc (dedL ns) g) : normF "line" (map2 g ns) = normF "line" ns := by
  obtain ⟨c, C, h0⟩ := A.cut
  rw [line_cut C, h0]
  unfold normF
  rw [turn_line]
  rfl
theorem ring_asc {ns : List Pr} {g : Int → Int} (A : Asc (dedL ns) g) (hne : ns ≠ []) : normF "ring" (map2 g ns) = normF "ring" ns := by
  obtain ⟨c, C, h0⟩ := A.cut
  exact ring_cut C hne
/-- the first begins at the cut -/
theorem line_ring {ns : List Pr} {g : Int → Int} (C : Cut (dedL ns) (ns.headD (0, 0)).1 g) : normF "line" (map2 g ns) = normF "ring" ns := by
  rw [line_cut C]
  unfold normF turnOf
  rw [if_pos rfl]
/-- ranks ascend -/
theorem rk_asc {d : List Int} {x y : Int} (hx : x ∈ d) (hy : y ∈ d) : rk d x < rk d y ↔ x < y := by
  refine ⟨fun h => ?_, fun h => rk_lt hx h⟩
  rcases Int.lt_trichotomy x y with c | c | c
  · exact c
  · subst c; omega
  · have := rk_lt hy c; omega
/-- the numbers themselves are cut at the turn -/
theorem nrm_isCut {d : List Int} {s : Int} (hs : s ∈ d) : Cut d s (nrm d ((rk d s : Nat) : Int)) := by
  intro x y hx hy
  have h1 := rk_asc hx hy
  have h2 := rk_asc hx hs
  have h3 := rk_asc hy hs
  have b1 := rk_lt4 hx
  have b2 := rk_lt4 hy
  have b3 := rk_lt4 hs
  have v : ∀ u, u ∈ d → nrm d ((rk d s : Nat) : Int) u = if u < s then ((rk d u : Nat) : Int) - (rk d s : Nat) + d.length else ((rk d u : Nat) : Int) - (rk d s : Nat) := fun u hu => by
    have g1 := rk_asc hu hs
    have g2 := rk_lt4 hu
    unfold nrm
    split
    · rename_i c
      have := g1.mpr c
      rw [← Int.add_emod_right, Int.emod_eq_of_lt (by omega) (by omega)]
    · rename_i c
      have := mt g1.mp c
      rw [Int.emod_eq_of_lt (by omega) (by omega)]
  rw [v x hx, v y hy]
  by_cases k1 : x < s <;> by_cases k2 : y < s <;> simp only [k1, k2, if_true, if_false, true_and, false_and, true_or, false_or, iff_true, iff_false] <;> omega
theorem nrm_zero {d : List Int} {x : Int} (hx : x ∈ d) : nrm d 0 x = ((rk d x : Nat) : Int) := by
  have := rk_lt4 hx
  unfold nrm
  rw [Int.sub_zero, Int.emod_eq_of_lt (by omega) (by omega)]
theorem nrm_asc {d : List Int} : Asc d (nrm d 0) := by
  intro x y hx hy
  rw [nrm_zero hx, nrm_zero hy]
  have := rk_asc hx hy
  omega
/-- a figure's numbers are its own -/
theorem norm_norm {kind : Str} (hk : kind = "line" ∨ kind = "ring") {ns : List Pr} (hne : ns ≠ []) : normF kind (normF kind ns) = normF kind ns := by
  obtain ⟨p0, pr, rfl⟩ : ∃ p r, ns = p :: r := by
    cases ns with
    | nil => exact (hne rfl).elim
    | cons p r => exact ⟨p, r, rfl⟩
  rcases hk with rfl | rfl
  · have := line_asc (ns := p0 :: pr) nrm_asc
    have e : normF "line" (p0 :: pr) = map2 (nrm (dedL (p0 :: pr)) 0) (p0 :: pr) := by unfold normF; rw [turn_line]; rfl
    rw [← e] at this
    exact this
  · have := ring_cut (ns := p0 :: pr) (nrm_isCut (mem_dedL (ns := p0 :: pr) List.mem_cons_self).1) hne
    have e : normF "ring" (p0 :: pr) = map2 (nrm (dedL (p0 :: pr)) ((rk (dedL (p0 :: pr)) p0.1 : Nat) : Int)) (p0 :: pr) := by unfold normF turnOf; rw [if_pos rfl]; rfl
    rw [← e] at this
    exact this
end DL
/-! DLz: figures of pairs, ways in figures, moments -/
namespace DL
open PySem L2
/-! ### slices -/
theorem cut_take (xs : List D) (m : Nat) : cutD xs none (some (m : Int)) = xs.take m := by
  unfold cutD
  rw [HT.sIx_nat]
  show (xs.drop 0).take (min m xs.length - 0) = _
  rw [List.drop_zero, Nat.sub_zero, Nat.min_comm, ← List.take_take, List.take_of_length_le (by rw [List.length_take]; omega)]
theorem cut_drop (xs : List D) (m : Nat) : cutD xs (some (m : Int)) none = xs.drop m := by
  unfold cutD
  rw [HT.sIx_nat]
  show (xs.drop (min m xs.length)).take (xs.length - min m xs.length) = _
  rw [List.take_of_length_le (by rw [List.length_drop]; exact Nat.le_refl _)]
  by_cases h : m ≤ xs.length
  · rw [Nat.min_eq_left h]
  · rw [Nat.min_eq_right (by omega), List.drop_length, List.drop_eq_nil_of_le (by omega)]
/-! ### numbered -/
def numsK : List Int → Int → List (Key × D)
  | [], _ => []
  | x :: r, k => (.inl x, .v (.int k)) :: numsK r (k + 1)
theorem numsK_val : ∀ {l : List Int} {k x : Int}, l.Pairwise (· < ·) → x ∈ l → valD (numsK l k) (.inl x) = some (.v (.int (k + (rk l x : Nat))))
  | z :: r, k, x, hs, hx => by
    obtain ⟨h1, h2⟩ := List.pairwise_cons.mp hs
    show (if (Sum.inl z : Key) = .inl x then some (D.v (.int k)) else valD (numsK r (k + 1)) (.inl x)) = _
    rcases List.mem_cons.mp hx with e | hx'
    · subst e
      rw [if_pos rfl]
      have : rk (x :: r) x = 0 := by
        unfold rk
        rw [List.length_eq_zero_iff, List.filter_eq_nil_iff]
        intro y hy z
        have z := of_decide_eq_true z
        rcases List.mem_cons.mp hy with e | hy
        · omega
        · have := h1 y hy; omega
      rw [this]
      show _ = some (D.v (.int (k + 0)))
      rw [Int.add_zero]
    · have lt := h1 x hx'
      rw [if_neg (fun z => by have := Sum.inl.inj z; omega), numsK_val h2 hx']
      have : rk (z :: r) x = rk r x + 1 := by
        unfold rk
        rw [List.filter_cons, if_pos (decide_eq_true lt)]
        rfl
      rw [this]
      congr 3
      omega
theorem numsK_none : ∀ {l : List Int} {k x : Int}, x ∉ l → valD (numsK l k) (.inl x) = none
  | [], _, _, _ => rfl
  | z :: r, k, x, h => by
    show (if (Sum.inl z : Key) = .inl x then some (D.v (.int k)) else valD (numsK r (k + 1)) (.inl x)) = _
    rw [if_neg (fun e => h (by have := Sum.inl.inj e; subst this; exact List.mem_cons_self)), numsK_none fun e => h (List.mem_cons_of_mem _ e)]
theorem numsK_snoc : ∀ (l : List Int) (k x : Int), numsK l k ++ [(.inl x, .v (.int (k + l.length)))] = numsK (l ++ [x]) k
  | [], k, x => by show [((Sum.inl x : Key), D.v (.int (k + 0)))] = _; rw [Int.add_zero]; rfl
  | z :: r, k, x => by
    show _ :: (numsK r (k + 1) ++ _) = _ :: numsK (r ++ [x]) (k + 1)
    rw [← numsK_snoc r (k + 1) x, List.length_cons]
    have : k + ((r.length + 1 : Nat) : Int) = k + 1 + (r.length : Int) := by omega
    rw [this]
theorem numsK_len : ∀ (l : List Int) (k : Int), (numsK l k).length = l.length
  | [], _ => rfl
  | z :: r, k => by show (numsK r (k + 1)).length + 1 = _; rw [numsK_len r]; rfl
/-- the moments of the first pairs, as keys -/
theorem momsA {ps : List Pr} {i : Nat} {p : Pr} (hp : ps[i]? = some p) : dedL (ps.take (i + 1)) = ded1 (ded1 (dedL (ps.take i)) p.1) p.2 := by
  unfold dedL
  rw [List.take_add_one, hp]
  show ded [] (moms (ps.take i ++ [p])) = _
  rw [moms_snoc, ded_snoc]
theorem dedL_len (ps : List Pr) : (dedL ps).length ≤ 2 * ps.length := by
  refine Nat.le_trans ded_len ?_
  rw [List.length_nil, moms_len]
  omega
theorem ded1_len (d : List Int) (x : Int) : (ded1 d x).length ≤ d.length + 1 := by
  unfold ded1
  split
  · omega
  · rw [List.length_append]; simp only [List.length_cons, List.length_nil]; omega
theorem keysB_len (d : List Int) : (keysB d).length = d.length := by unfold keysB; rw [List.length_map]
theorem keysI_B : ∀ d : List Int, keysI (keysB d) = some d
  | [] => rfl
  | x :: r => by
    show (match keysI (keysB r) with | some ks => some (x :: ks) | none => none) = _
    rw [keysI_B r]
theorem pr_get {ps : List Pr} {i : Nat} {x : D} (h : (ps.map prD)[i]? = some x) : ∃ p, ps[i]? = some p ∧ x = prD p := by
  rw [List.getElem?_map] at h
  cases e : ps[i]? with
  | none => rw [e] at h; cases h
  | some p => rw [e] at h; cases h; exact ⟨p, rfl, rfl⟩
def sp_numbered : SpD := fun ds h Q _ => ds.length = 1 ∧ ∃ (a : Addr) (ps : List Pr) (h0 : Hd), ds = [.v (.ref a)] ∧ h a = some (.lst (ps.map prD)) ∧ ps.length ≤ 30 ∧ Sub h0 h ∧ Q (.t ((normF "line" ps).map prD)) h0
def rd_numbered (E : ER) : SD :=
  dSeq (dAsg (dCB cSortedA (dCons (dDc2 (iAnyD (dVar 0)) (nG 4) (dYes) (iAnyD (dVar 4)) (nG 5) (dYes) (dVar 5) (dC (.v (.bl true))) [4, 5] [5]) (dNil))) (nG 1))
  (dSeq (dAsg (dDc (iRng1D (dCons (dCB cLen (dCons (dVar 1) (dNil))) (dNil))) (nG 3) (dYes) (d2 pIt (dVar 1) (dVar 3)) (dVar 3) [3]) (nG 2))
  (dRet (dCB cTuple (dCons (dLc (iAnyD (dVar 0)) (tupG 2 (namesD [6, 7])) (dYes) (dTup (dCons (d2 pIt (dVar 2) (dVar 6)) (dCons (d2 pIt (dVar 2) (dVar 7)) (dNil)))) [6, 7]) (dNil)))))
abbrev N_numbered : List Str := ["pairs", "seen", "numbers", "at", "pair", "moment", "begin", "end"]
theorem ok_numbered : ∀ ds h Q E, sp_numbered ds h Q E → rd_numbered (fun x _ h' => E x h') (fin Q) (startD N_numbered ds) h := by
  rintro ds h Q E ⟨_, a, ps, h00, rfl, ha, hlen, sub, ret⟩
  show rd_numbered _ _ [some (.v (.ref a)), none, none, none, none, none, none, none] h
  unfold rd_numbered
  have dl := dedL_len ps
  try simp -dsimp -implicitDefEqProofs only [↓rds1, ↓rds2, ↓rds3, ↓rds4, ↓rds5, ↓rds6, ↓rds7, ↓rds8, ↓rds9, ↓rds10, ↓rds11, ↓rds12, List.set_cons_zero, List.set_cons_succ, ne_eq, not_false_eq_true, decide_eq_true_eq, Bool.or_true, Bool.or_false, Bool.true_or, Bool.false_or, Bool.and_true, Bool.true_and, Bool.and_false, Bool.false_and, Bool.not_true, Bool.not_false, reduceCtorEq, beq_self_eq_true, true_and, and_true, ha]
  refine dcm2_of (fun i => keysB (dedL (ps.take i))) rfl (rdL_l ha) ?_ ?_
  · intro i x hx S N hS
    obtain ⟨p, hp, rfl⟩ := pr_get hx
    rw [momsA hp] at hS
    have hle := dedL_len (ps.take i)
    rw [List.length_take] at hle
    generalize dedL (ps.take i) = d at *
    have l1 := ded1_len d p.1
    have big : ∀ d : List Int, d.length ≤ 2001 → (keysB d).length < sizeLine := fun d hd => by
      rw [keysB_len]
      exact Nat.lt_of_le_of_lt hd (by decide)
    try simp -dsimp -implicitDefEqProofs only [↓rds1, ↓rds2, ↓rds3, ↓rds4, ↓rds5, ↓rds6, ↓rds7, ↓rds8, ↓rds9, ↓rds10, ↓rds11, ↓rds12, List.set_cons_zero, List.set_cons_succ, ne_eq, not_false_eq_true, decide_eq_true_eq, Bool.or_true, Bool.or_false, Bool.true_or, Bool.false_or, Bool.and_true, Bool.true_and, Bool.and_false, Bool.false_and, Bool.not_true, Bool.not_false, reduceCtorEq, beq_self_eq_true, true_and, and_true, prD]
    refine ⟨trivial, ?_⟩
    try simp -dsimp -implicitDefEqProofs only [↓rds1, ↓rds2, ↓rds3, ↓rds4, ↓rds5, ↓rds6, ↓rds7, ↓rds8, ↓rds9, ↓rds10, ↓rds11, ↓rds12, List.set_cons_zero, List.set_cons_succ, ne_eq, not_false_eq_true, decide_eq_true_eq, Bool.or_true, Bool.or_false, Bool.true_or, Bool.false_or, Bool.and_true, Bool.true_and, Bool.and_false, Bool.false_and, Bool.not_true, Bool.not_false, reduceCtorEq, beq_self_eq_true, true_and, and_true, putB]
    refine ⟨big d (by omega), trivial, ?_⟩
    try simp -dsimp -implicitDefEqProofs only [↓rds1, ↓rds2, ↓rds3, ↓rds4, ↓rds5, ↓rds6, ↓rds7, ↓rds8, ↓rds9, ↓rds10, ↓rds11, ↓rds12, List.set_cons_zero, List.set_cons_succ, ne_eq, not_false_eq_true, decide_eq_true_eq, Bool.or_true, Bool.or_false, Bool.true_or, Bool.false_or, Bool.and_true, Bool.true_and, Bool.and_false, Bool.false_and, Bool.not_true, Bool.not_false, reduceCtorEq, beq_self_eq_true, true_and, and_true, putB]
    refine ⟨big _ (by omega), trivial, ?_⟩
    exact hS
  · have e : ps.take (ps.map prD).length = ps := List.take_of_length_le (by rw [List.length_map]; exact Nat.le_refl _)
    rw [e]
    have hd : (dedL ps).Nodup := ded_nodup List.nodup_nil
    try simp -dsimp -implicitDefEqProofs only [↓rds1, ↓rds2, ↓rds3, ↓rds4, ↓rds5, ↓rds6, ↓rds7, ↓rds8, ↓rds9, ↓rds10, ↓rds11, ↓rds12, List.set_cons_zero, List.set_cons_succ, ne_eq, not_false_eq_true, decide_eq_true_eq, Bool.or_true, Bool.or_false, Bool.true_or, Bool.false_or, Bool.and_true, Bool.true_and, Bool.and_false, Bool.false_and, Bool.not_true, Bool.not_false, reduceCtorEq, beq_self_eq_true, true_and, and_true, keysI_B]
    intro l hl
    refine ⟨by omega, srt_i fun l' hp hs => al_i fun l2 hl2 => ?_⟩
    have nd : l'.Nodup := hp.nodup_iff.mpr hd
    have hs' : l'.Pairwise (· < ·) := (hs.and nd).imp fun ⟨h1, h2⟩ => by omega
    try simp -dsimp -implicitDefEqProofs only [↓rds1, ↓rds2, ↓rds3, ↓rds4, ↓rds5, ↓rds6, ↓rds7, ↓rds8, ↓rds9, ↓rds10, ↓rds11, ↓rds12, List.set_cons_zero, List.set_cons_succ, ne_eq, not_false_eq_true, decide_eq_true_eq, Bool.or_true, Bool.or_false, Bool.true_or, Bool.false_or, Bool.and_true, Bool.true_and, Bool.and_false, Bool.false_and, Bool.not_true, Bool.not_false, reduceCtorEq, beq_self_eq_true, true_and, and_true, len_intsD, toNat_n]
    have ll := hp.length_eq
    refine ⟨by omega, dcm_of (fun i => numsK (l'.take i) 0) rfl trivial ?_ ?_⟩
    · intro i x hx S N hS
      obtain ⟨hi, rfl⟩ := rangeD_get hx
      have e1 : atI (intsD l') (0 + (i : Int)) = some (.v (.int l'[i])) := by
        rw [Int.zero_add]
        refine atI_nat ?_
        unfold intsD
        rw [List.getElem?_map, List.getElem?_eq_getElem hi]
        rfl
      have nm : l'[i] ∉ l'.take i := fun z => by
        have := List.nodup_iff_pairwise_ne.mp nd
        rw [← List.take_append_drop i l', List.pairwise_append] at this
        exact this.2.2 _ z l'[i] (by rw [List.drop_eq_getElem_cons hi]; exact List.mem_cons_self) rfl
      have e2 : putD (numsK (l'.take i) 0) (.inl l'[i]) (.v (.int (0 + (i : Int)))) = numsK (l'.take (i + 1)) 0 := by
        unfold putD
        rw [numsK_none nm, if_neg (by simp), List.take_add_one, List.getElem?_eq_getElem hi]
        have := numsK_snoc (l'.take i) 0 l'[i]
        rw [List.length_take, Nat.min_eq_left (Nat.le_of_lt hi)] at this
        exact this
      try simp -dsimp -implicitDefEqProofs only [↓rds1, ↓rds2, ↓rds3, ↓rds4, ↓rds5, ↓rds6, ↓rds7, ↓rds8, ↓rds9, ↓rds10, ↓rds11, ↓rds12, List.set_cons_zero, List.set_cons_succ, ne_eq, not_false_eq_true, decide_eq_true_eq, Bool.or_true, Bool.or_false, Bool.true_or, Bool.false_or, Bool.and_true, Bool.true_and, Bool.and_false, Bool.false_and, Bool.not_true, Bool.not_false, reduceCtorEq, beq_self_eq_true, true_and, and_true, e1]
      rw [e2]
      refine ⟨?_, hS⟩
      rw [numsK_len, List.length_take]
      exact Nat.lt_of_le_of_lt (show min i l'.length ≤ 1000 by omega) (by decide)
    · intro l3 hl3
      have la : a ≠ l := fun e => by rw [← e, ha] at hl; cases hl
      have l2l : l2 ≠ l := fun e => by rw [e, put_same] at hl2; cases hl2
      have a2 : a ≠ l2 := fun e => by rw [← e, put_ne la, ha] at hl2; cases hl2
      have l32 : l3 ≠ l2 := fun e => by rw [e, put_same] at hl3; cases hl3
      have l3l : l3 ≠ l := fun e => by rw [e, put_ne l2l.symm, put_same] at hl3; cases hl3
      have a3 : a ≠ l3 := fun e => by rw [← e, put_ne a2, put_ne la, ha] at hl3; cases hl3
      have eT : l'.take (rangeD 0 l'.length).length = l' := List.take_of_length_le (by unfold rangeD; rw [List.length_map, List.length_range]; exact Nat.le_refl _)
      rw [eT]
      have hs1 : Sub h (put (put (put h l (.dk (keysB (dedL ps)))) l2 (.lst (intsD l'))) l3 (.dk (numsK l' 0))) := ((Sub.put hl).trans (Sub.put hl2)).trans (Sub.put hl3)
      have hA : put (put (put h l (.dk (keysB (dedL ps)))) l2 (.lst (intsD l'))) l3 (.dk (numsK l' 0)) a = some (.lst (ps.map prD)) := by rw [put_ne a3, put_ne a2, put_ne la]; exact ha
      have hB : put (put (put h l (.dk (keysB (dedL ps)))) l2 (.lst (intsD l'))) l3 (.dk (numsK l' 0)) l3 = some (.dk (numsK l' 0)) := put_same
      generalize put (put (put h l (.dk (keysB (dedL ps)))) l2 (.lst (intsD l'))) l3 (.dk (numsK l' 0)) = h1 at *
      have e4 : ∀ x, x ∈ dedL ps → valD (numsK l' 0) (.inl x) = some (.v (.int (nrm (dedL ps) 0 x))) := fun x hx => by
        rw [numsK_val hs' (hp.mem_iff.mpr hx), nrm_zero hx, rk_perm hp, Int.zero_add]
      try simp -dsimp -implicitDefEqProofs only [↓rds1, ↓rds2, ↓rds3, ↓rds4, ↓rds5, ↓rds6, ↓rds7, ↓rds8, ↓rds9, ↓rds10, ↓rds11, ↓rds12, List.set_cons_zero, List.set_cons_succ, ne_eq, not_false_eq_true, decide_eq_true_eq, Bool.or_true, Bool.or_false, Bool.true_or, Bool.false_or, Bool.and_true, Bool.true_and, Bool.and_false, Bool.false_and, Bool.not_true, Bool.not_false, reduceCtorEq, beq_self_eq_true, true_and, and_true, hA]
      refine cmp_list ((normF "line" ps).map prD) (rdL_l hA) (by unfold normF; rw [List.length_map, List.length_map, List.length_map]) (by rw [List.length_map]; omega) ?_ ?_
      · intro k x y hx hy S N hS
        obtain ⟨p, hp1, rfl⟩ := pr_get hx
        obtain ⟨m1, m2⟩ := mem_dedL (List.mem_of_getElem? hp1)
        have ey : y = prD (nrm (dedL ps) 0 p.1, nrm (dedL ps) 0 p.2) := by
          unfold normF at hy
          rw [List.getElem?_map, List.getElem?_map, hp1, turn_line] at hy
          cases hy
          rfl
        subst ey
        have e5 := e4 _ m1
        have e6 := e4 _ m2
        try simp -dsimp -implicitDefEqProofs only [↓rds1, ↓rds2, ↓rds3, ↓rds4, ↓rds5, ↓rds6, ↓rds7, ↓rds8, ↓rds9, ↓rds10, ↓rds11, ↓rds12, List.set_cons_zero, List.set_cons_succ, ne_eq, not_false_eq_true, decide_eq_true_eq, Bool.or_true, Bool.or_false, Bool.true_or, Bool.false_or, Bool.and_true, Bool.true_and, Bool.and_false, Bool.false_and, Bool.not_true, Bool.not_false, reduceCtorEq, beq_self_eq_true, true_and, and_true, prD, namesD, hB, e5, e6]
        exact ⟨rfl, hS⟩
      · intro l4 hl4
        try simp -dsimp -implicitDefEqProofs only [↓rds1, ↓rds2, ↓rds3, ↓rds4, ↓rds5, ↓rds6, ↓rds7, ↓rds8, ↓rds9, ↓rds10, ↓rds11, ↓rds12, List.set_cons_zero, List.set_cons_succ, ne_eq, not_false_eq_true, decide_eq_true_eq, Bool.or_true, Bool.or_false, Bool.true_or, Bool.false_or, Bool.and_true, Bool.true_and, Bool.and_false, Bool.false_and, Bool.not_true, Bool.not_false, reduceCtorEq, beq_self_eq_true, true_and, and_true]
        exact finI (sub.trans (hs1.trans (Sub.put hl4))) ret
def sp_line_figure : SpD := sp_numbered
def rd_line_figure (E : ER) : SD :=
  dRet (dCall sp_numbered E (dCons (dVar 0) (dNil)))
abbrev N_line_figure : List Str := ["pairs"]
theorem ok_line_figure : ∀ ds h Q E, sp_line_figure ds h Q E → rd_line_figure (fun x _ h' => E x h') (fin Q) (startD N_line_figure ds) h := by
  rintro ds h Q E ⟨_, a, ps, h00, rfl, ha, hlen, sub, ret⟩
  show rd_line_figure _ _ [some (.v (.ref a))] h
  unfold rd_line_figure
  try simp -dsimp -implicitDefEqProofs only [↓rds1, ↓rds2, ↓rds3, ↓rds4, ↓rds5, ↓rds6, ↓rds7, ↓rds8, ↓rds9, ↓rds10, ↓rds11, ↓rds12, List.set_cons_zero, List.set_cons_succ, ne_eq, not_false_eq_true, decide_eq_true_eq, Bool.or_true, Bool.or_false, Bool.true_or, Bool.false_or, Bool.and_true, Bool.true_and, Bool.and_false, Bool.false_and, Bool.not_true, Bool.not_false, reduceCtorEq, beq_self_eq_true, true_and, and_true]
  refine cl_i ⟨rfl, a, ps, h00, rfl, ha, hlen, sub, ?_⟩
  exact finR ret
/-- the ring's turn is cut at its beginning -/
theorem tn_cut {d : List Int} {s m M : Int} (lo : ∀ x ∈ d, m ≤ x) (hi : ∀ x ∈ d, x ≤ M) : Cut d s (trn s (M - m + 1)) := by
  intro x y hx hy
  have a1 := hi x hx
  have a2 := hi y hy
  have a3 := lo x hx
  have a4 := lo y hy
  have v : ∀ u, trn s (M - m + 1) u = if u < s then u - s + (M - m + 1) else u - s := fun u => by
    unfold trn
    by_cases c : s ≤ u
    · rw [if_pos c, if_neg (by omega)]
    · rw [if_neg c, if_pos (by omega)]
  rw [v, v]
  by_cases k1 : x < s <;> by_cases k2 : y < s <;> simp only [k1, k2, if_true, if_false, true_and, false_and, true_or, false_or, iff_true, iff_false] <;> omega
def sp_ring_figure : SpD := fun ds h Q _ => ds.length = 1 ∧ ∃ (a : Addr) (ps : List Pr) (h0 : Hd), ds = [.v (.ref a)] ∧ h a = some (.lst (ps.map prD)) ∧ ps ≠ [] ∧ ps.length ≤ 30 ∧ Sub h0 h ∧ Q (.t ((normF "ring" ps).map prD)) h0
def rd_ring_figure (E : ER) : SD :=
  dSeq (dAsg (dLc2 (iAnyD (dVar 0)) (nG 4) (dYes) (iAnyD (dVar 4)) (nG 5) (dYes) (dVar 5) [4, 5] [5]) (nG 1))
  (dSeq (dAsg (d2 pAdd (d2 pSub (dCB cMax (dCons (dVar 1) (dNil))) (dCB cMin (dCons (dVar 1) (dNil)))) (dC (.v (.int 1)))) (nG 2))
  (dSeq (dAsg (d2 pIt (d2 pIt (dVar 0) (dC (.v (.int 0)))) (dC (.v (.int 0)))) (nG 3))
  (dRet (dCall sp_numbered E (dCons (dLc (iAnyD (dVar 0)) (tupG 2 (namesD [6, 7])) (dYes) (dTup (dCons (dCall sp_turned E0d (dCons (dVar 3) (dCons (dVar 2) (dCons (dVar 6) (dNil))))) (dCons (dCall sp_turned E0d (dCons (dVar 3) (dCons (dVar 2) (dCons (dVar 7) (dNil))))) (dNil)))) [6, 7]) (dNil))))))
abbrev N_ring_figure : List Str := ["pairs", "seen", "size", "start", "pair", "moment", "begin", "end"]
theorem ok_ring_figure : ∀ ds h Q E, sp_ring_figure ds h Q E → rd_ring_figure (fun x _ h' => E x h') (fin Q) (startD N_ring_figure ds) h := by
  rintro ds h Q E ⟨_, a, ps, h00, rfl, ha, hne, hlen, sub, ret⟩
  show rd_ring_figure _ _ [some (.v (.ref a)), none, none, none, none, none, none, none] h
  unfold rd_ring_figure
  try simp -dsimp -implicitDefEqProofs only [↓rds1, ↓rds2, ↓rds3, ↓rds4, ↓rds5, ↓rds6, ↓rds7, ↓rds8, ↓rds9, ↓rds10, ↓rds11, ↓rds12, List.set_cons_zero, List.set_cons_succ, ne_eq, not_false_eq_true, decide_eq_true_eq, Bool.or_true, Bool.or_false, Bool.true_or, Bool.false_or, Bool.and_true, Bool.true_and, Bool.and_false, Bool.false_and, Bool.not_true, Bool.not_false, reduceCtorEq, beq_self_eq_true, true_and, and_true, ha]
  have hM : ((ps.map prD).flatMap fun x => match x with | .t ys => ys | _ => []) = intsD (moms ps) := by
    unfold moms intsD
    rw [List.flatMap_map, List.map_flatMap]
    rfl
  refine cmp2_of (fun x => match x with | .t ys => ys | _ => []) (rdL_l ha) ?_ ?_ ?_
  · rw [hM, len_intsD, moms_len]
    omega
  · intro x hx S N acc hacc hS
    obtain ⟨p, hp, rfl⟩ := List.mem_map.mp hx
    try simp -dsimp -implicitDefEqProofs only [↓rds1, ↓rds2, ↓rds3, ↓rds4, ↓rds5, ↓rds6, ↓rds7, ↓rds8, ↓rds9, ↓rds10, ↓rds11, ↓rds12, List.set_cons_zero, List.set_cons_succ, ne_eq, not_false_eq_true, decide_eq_true_eq, Bool.or_true, Bool.or_false, Bool.true_or, Bool.false_or, Bool.and_true, Bool.true_and, Bool.and_false, Bool.false_and, Bool.not_true, Bool.not_false, reduceCtorEq, beq_self_eq_true, true_and, and_true, prD]
    refine comp_map (fun y => y) trivial hacc ?_ ?_
    · intro y hy S N hS
      try simp -dsimp -implicitDefEqProofs only [↓rds1, ↓rds2, ↓rds3, ↓rds4, ↓rds5, ↓rds6, ↓rds7, ↓rds8, ↓rds9, ↓rds10, ↓rds11, ↓rds12, List.set_cons_zero, List.set_cons_succ, ne_eq, not_false_eq_true, decide_eq_true_eq, Bool.or_true, Bool.or_false, Bool.true_or, Bool.false_or, Bool.and_true, Bool.true_and, Bool.and_false, Bool.false_and, Bool.not_true, Bool.not_false, reduceCtorEq, beq_self_eq_true, true_and, and_true]
      exact hS
    · rw [List.map_id']
      exact hS
  · rw [hM]
    intro l hl
    have la : a ≠ l := fun e => by rw [← e, ha] at hl; cases hl
    obtain ⟨p0, pr, rfl⟩ : ∃ p r, ps = p :: r := by
      cases ps with
      | nil => exact (hne rfl).elim
      | cons p r => exact ⟨p, r, rfl⟩
    have hA : put h l (.lst (intsD (moms (p0 :: pr)))) a = some (.lst ((p0 :: pr).map prD)) := by rw [put_ne la]; exact ha
    have e0 : atI ((p0 :: pr).map prD) 0 = some (prD p0) := atI_nat (j := 0) (by rfl)
    try simp -dsimp -implicitDefEqProofs only [↓rds1, ↓rds2, ↓rds3, ↓rds4, ↓rds5, ↓rds6, ↓rds7, ↓rds8, ↓rds9, ↓rds10, ↓rds11, ↓rds12, List.set_cons_zero, List.set_cons_succ, ne_eq, not_false_eq_true, decide_eq_true_eq, Bool.or_true, Bool.or_false, Bool.true_or, Bool.false_or, Bool.and_true, Bool.true_and, Bool.and_false, Bool.false_and, Bool.not_true, Bool.not_false, reduceCtorEq, beq_self_eq_true, true_and, and_true, intsOf_ints, hA, e0, prD]
    have mne : moms (p0 :: pr) ≠ [] := by unfold moms; rw [List.flatMap_cons]; simp
    refine ⟨mne, mne, ?_⟩
    have C : Cut (dedL (p0 :: pr)) p0.1 (trn p0.1 (maxI (moms (p0 :: pr)) - minI (moms (p0 :: pr)) + 1)) := by
      have mm : ∀ x, x ∈ dedL (p0 :: pr) → x ∈ moms (p0 :: pr) := fun x hx => by
        rcases ded_mem.mp hx with h | h
        · cases h
        · exact h
      exact tn_cut (fun x hx => minI_le (mm x hx)) fun x hx => maxI_ge (mm x hx)
    have fin1 := line_ring (ns := p0 :: pr) C
    generalize maxI (moms (p0 :: pr)) - minI (moms (p0 :: pr)) + 1 = z at *
    refine cmp_list ((map2 (trn p0.1 z) (p0 :: pr)).map prD) (rdL_l hA) (by unfold map2; rw [List.length_map, List.length_map, List.length_map]) (by rw [List.length_map]; omega) ?_ ?_
    · intro k x y hx hy S N hS
      obtain ⟨p, hp1, rfl⟩ := pr_get hx
      have ey : y = prD (trn p0.1 z p.1, trn p0.1 z p.2) := by
        unfold map2 at hy
        rw [List.getElem?_map, List.getElem?_map, hp1] at hy
        cases hy
        rfl
      subst ey
      try simp -dsimp -implicitDefEqProofs only [↓rds1, ↓rds2, ↓rds3, ↓rds4, ↓rds5, ↓rds6, ↓rds7, ↓rds8, ↓rds9, ↓rds10, ↓rds11, ↓rds12, List.set_cons_zero, List.set_cons_succ, ne_eq, not_false_eq_true, decide_eq_true_eq, Bool.or_true, Bool.or_false, Bool.true_or, Bool.false_or, Bool.and_true, Bool.true_and, Bool.and_false, Bool.false_and, Bool.not_true, Bool.not_false, reduceCtorEq, beq_self_eq_true, true_and, and_true, prD, namesD]
      refine ⟨rfl, cl_i ⟨rfl, _, _, _, rfl, ?_⟩⟩
      try simp -dsimp -implicitDefEqProofs only [↓rds1, ↓rds2, ↓rds3, ↓rds4, ↓rds5, ↓rds6, ↓rds7, ↓rds8, ↓rds9, ↓rds10, ↓rds11, ↓rds12, List.set_cons_zero, List.set_cons_succ, ne_eq, not_false_eq_true, decide_eq_true_eq, Bool.or_true, Bool.or_false, Bool.true_or, Bool.false_or, Bool.and_true, Bool.true_and, Bool.and_false, Bool.false_and, Bool.not_true, Bool.not_false, reduceCtorEq, beq_self_eq_true, true_and, and_true]
      refine cl_i ⟨rfl, _, _, _, rfl, ?_⟩
      try simp -dsimp -implicitDefEqProofs only [↓rds1, ↓rds2, ↓rds3, ↓rds4, ↓rds5, ↓rds6, ↓rds7, ↓rds8, ↓rds9, ↓rds10, ↓rds11, ↓rds12, List.set_cons_zero, List.set_cons_succ, ne_eq, not_false_eq_true, decide_eq_true_eq, Bool.or_true, Bool.or_false, Bool.true_or, Bool.false_or, Bool.and_true, Bool.true_and, Bool.and_false, Bool.false_and, Bool.not_true, Bool.not_false, reduceCtorEq, beq_self_eq_true, true_and, and_true]
      exact hS
    · intro l4 hl4
      try simp -dsimp -implicitDefEqProofs only [↓rds1, ↓rds2, ↓rds3, ↓rds4, ↓rds5, ↓rds6, ↓rds7, ↓rds8, ↓rds9, ↓rds10, ↓rds11, ↓rds12, List.set_cons_zero, List.set_cons_succ, ne_eq, not_false_eq_true, decide_eq_true_eq, Bool.or_true, Bool.or_false, Bool.true_or, Bool.false_or, Bool.and_true, Bool.true_and, Bool.and_false, Bool.false_and, Bool.not_true, Bool.not_false, reduceCtorEq, beq_self_eq_true, true_and, and_true]
      refine cl_i ⟨rfl, l4, map2 (trn p0.1 z) (p0 :: pr), h00, rfl, put_same, by unfold map2; rw [List.length_map]; exact hlen, sub.trans ((Sub.put hl).trans (Sub.put hl4)), ?_⟩
      rw [fin1]
      exact finR ret
theorem asc_len : ∀ (l : List Int) (a b : Int), a ≤ b → l.Pairwise (· < ·) → (∀ x ∈ l, a ≤ x ∧ x < b) → (l.length : Int) ≤ b - a
  | [], a, b, h, _, _ => by show (0 : Int) ≤ b - a; omega
  | x :: r, a, b, h, hs, hx => by
    obtain ⟨h1, h2⟩ := List.pairwise_cons.mp hs
    have k := hx x List.mem_cons_self
    have := asc_len r (x + 1) b (by omega) h2 fun y hy => ⟨by have := h1 y hy; omega, (hx y (List.mem_cons_of_mem _ hy)).2⟩
    rw [List.length_cons]
    omega
theorem asc_at : ∀ (l : List Int) (k : Int), l.Pairwise (· < ·) → (∀ x ∈ l, k ≤ x ∧ x < k + l.length) → ∀ (i : Nat) (h : i < l.length), l[i] = k + i
  | x :: r, k, hs, hx, i, hi => by
    obtain ⟨h1, h2⟩ := List.pairwise_cons.mp hs
    have k0 := hx x List.mem_cons_self
    rw [List.length_cons] at k0
    have := asc_len r (x + 1) (k + (r.length + 1 : Nat)) (by omega) h2 fun y hy => ⟨by have := h1 y hy; omega, (hx y (List.mem_cons_of_mem _ hy)).2⟩
    have ex : x = k := by omega
    subst ex
    match i, hi with
    | 0, _ => show x = x + 0; omega
    | i + 1, hi =>
      have := asc_at r (x + 1) h2 (fun y hy => ⟨by have := h1 y hy; omega, by have := (hx y (List.mem_cons_of_mem _ hy)).2; rw [List.length_cons] at this; omega⟩) i (by rw [List.length_cons] at hi; omega)
      rw [List.getElem_cons_succ, this]
      omega
theorem asc_range {l : List Int} (hs : l.Pairwise (· < ·)) (hx : ∀ x ∈ l, 0 ≤ x ∧ x < (l.length : Int)) : intsD l = rangeD 0 l.length := by
  unfold intsD rangeD
  refine List.ext_getElem (by rw [List.length_map, List.length_map, List.length_range]) fun i h1 h2 => ?_
  rw [List.length_map] at h1
  rw [List.getElem_map, List.getElem_map, List.getElem_range, asc_at l 0 hs (fun x h => by have := hx x h; omega) i h1]
def Full (qs : List Pr) : Prop := ∀ x ∈ dedL qs, 0 ≤ x ∧ x < ((dedL qs).length : Int)
theorem norm_full {kind : Str} {ns : List Pr} : Full (normF kind ns) := fun x hx => by
  have hn : (dedL (normF kind ns)).length = (dedL ns).length := by rw [dedL_norm, List.length_map]
  rw [hn]
  rw [dedL_norm] at hx
  obtain ⟨u, hu, rfl⟩ := List.mem_map.mp hx
  have hp := List.length_pos_of_mem hu
  exact ⟨Int.emod_nonneg _ (by omega), Int.emod_lt_of_pos _ (by omega)⟩
theorem norm_line {ns : List Pr} (h : ∀ x ∈ ns, prOk "line" x) : ∀ x ∈ normF "line" ns, x.1 < x.2 := fun x hx => by
  unfold normF at hx
  rw [turn_line] at hx
  obtain ⟨p, hp, rfl⟩ := List.mem_map.mp hx
  have m := mem_dedL hp
  refine (nrm_asc p.1 p.2 m.1 m.2).mpr ?_
  have := h p hp
  unfold prOk at this
  rw [if_neg (by decide)] at this
  exact this
theorem norm_ring {ns : List Pr} (h : ∀ x ∈ ns, prOk "ring" x) : ∀ x ∈ normF "ring" ns, x.1 ≠ x.2 := fun x hx => by
  unfold normF at hx
  obtain ⟨p, hp, rfl⟩ := List.mem_map.mp hx
  have m := mem_dedL hp
  have := h p hp
  unfold prOk at this
  rw [if_pos rfl] at this
  exact fun e => this (nrm_inj m.1 m.2 e)
theorem norm_head (p : Pr) (r : List Pr) : ∃ z r', normF "ring" (p :: r) = (0, z) :: r' := by
  unfold normF turnOf
  rw [if_pos rfl, List.map_cons]
  have : nrm (dedL (p :: r)) ((rk (dedL (p :: r)) p.1 : Nat) : Int) p.1 = 0 := by
    unfold nrm
    rw [Int.sub_self, Int.zero_emod]
  show ∃ z r', (nrm (dedL (p :: r)) ((rk (dedL (p :: r)) p.1 : Nat) : Int) p.1, _) :: _ = _
  rw [this]
  exact ⟨_, _, rfl⟩
theorem norm_len (kind : Str) (ns : List Pr) : (normF kind ns).length = ns.length := by unfold normF; rw [List.length_map]
theorem same_prs {h : Hd} {a b : Addr} {ps : List Pr} (ha : h a = some (.lst (ps.map prD))) (hb : h b = some (.lst (ps.map prD))) (hl : ps.length ≤ 900) : sameB h 3 (.v (.ref a)) (.v (.ref b)) :=
  ⟨a, _, _, rfl, ha, hb, rfl, by rw [List.length_map]; exact Nat.lt_of_le_of_lt hl (by decide), fun i x y h1 h2 => by
    rw [h1] at h2
    cases h2
    obtain ⟨p, hp, rfl⟩ := pr_get h1
    exact same_refl (n := 2) (d := prD p) ⟨by show 2 < 2 ^ 60; decide, fun y hy => by
      rcases List.mem_cons.mp hy with e | hy
      · rw [e]; exact rfl
      · rw [List.mem_singleton.mp hy]; exact rfl⟩⟩
theorem same_fig {h : Hd} {ps : List Pr} (hl : ps.length ≤ 900) : sameB h 3 (.t (ps.map prD)) (.t (ps.map prD)) :=
  same_refl (n := 3) ⟨by rw [List.length_map]; exact Nat.lt_of_le_of_lt hl (by decide), fun y hy => by
    obtain ⟨p, hp, rfl⟩ := List.mem_map.mp hy
    refine ⟨by show 2 < 2 ^ 60; decide, fun y hy => ?_⟩
    rcases List.mem_cons.mp hy with e | hy
    · rw [e]; exact rfl
    · rw [List.mem_singleton.mp hy]; exact rfl⟩
def sp_way_between : SpD := fun ds h Q _ => ds.length = 4 ∧ ∃ (kind : Str) (count : Nat) (f : Fg) (i j : Nat), ds = [.v (.str kind), figD f, .v (.int (i : Int)), .v (.int (j : Int))] ∧ FigK kind count f ∧ i < count ∧ j < count ∧ Q (.v (.str (wayF kind f i j))) h
def rd_way_between (E : ER) : SD :=
  dSeq (dIfS (dTest (d2 pEqA (dVar 0) (dC (.v (.str "line"))))) (dRet (dCall sp_line_way E (dCons (d2 pIt (dVar 1) (dVar 2)) (dCons (d2 pIt (dVar 1) (dVar 3)) (dNil))))) (dNext))
  (dSeq (dIfS (dTest (d2 pEqA (dVar 0) (dC (.v (.str "ring"))))) (dRet (dCall sp_ring_way E (dCons (d2 pIt (dVar 1) (dVar 2)) (dCons (d2 pIt (dVar 1) (dVar 3)) (dNil))))) (dNext))
  (dRet (dBM "str" mJoin (dC (.v (.str ""))) (dCons (dLc (iAnyD (dVar 1)) (nG 4) (dYes) (dCall sp_line_way E0d (dCons (d2 pIt (dVar 4) (dVar 2)) (dCons (d2 pIt (dVar 4) (dVar 3)) (dNil)))) [4]) (dNil)))))
abbrev N_way_between : List Str := ["kind", "figure", "first", "second", "one"]
theorem ok_way_between : ∀ ds h Q E, sp_way_between ds h Q E → rd_way_between (fun x _ h' => E x h') (fin Q) (startD N_way_between ds) h := by
  rintro ds h Q E ⟨_, kind, count, f, i, j, rfl, hf, hi, hj, ret⟩
  show rd_way_between _ _ [some (.v (.str kind)), some (figD f), some (.v (.int (i : Int))), some (.v (.int (j : Int))), none] h
  unfold rd_way_between
  cases f with
  | one ps =>
    obtain ⟨hk, hl⟩ := hf
    have e1 := at_pr (ps := ps) (i := i) (by omega)
    have e2 := at_pr (ps := ps) (i := j) (by omega)
    rcases hk with rfl | rfl
    · try simp -dsimp -implicitDefEqProofs only [↓rds1, ↓rds2, ↓rds3, ↓rds4, ↓rds5, ↓rds6, ↓rds7, ↓rds8, ↓rds9, ↓rds10, ↓rds11, ↓rds12, List.set_cons_zero, List.set_cons_succ, ne_eq, not_false_eq_true, decide_eq_true_eq, Bool.or_true, Bool.or_false, Bool.true_or, Bool.false_or, Bool.and_true, Bool.true_and, Bool.and_false, Bool.false_and, Bool.not_true, Bool.not_false, reduceCtorEq, beq_self_eq_true, true_and, and_true, figD, e1, e2]
      refine cl_i ⟨rfl, _, _, _, _, rfl, ?_⟩
      exact finR ret
    · try simp -dsimp -implicitDefEqProofs only [↓rds1, ↓rds2, ↓rds3, ↓rds4, ↓rds5, ↓rds6, ↓rds7, ↓rds8, ↓rds9, ↓rds10, ↓rds11, ↓rds12, List.set_cons_zero, List.set_cons_succ, ne_eq, not_false_eq_true, decide_eq_true_eq, Bool.or_true, Bool.or_false, Bool.true_or, Bool.false_or, Bool.and_true, Bool.true_and, Bool.and_false, Bool.false_and, Bool.not_true, Bool.not_false, reduceCtorEq, beq_self_eq_true, true_and, and_true, figD, rl, e1, e2]
      refine cl_i ⟨rfl, _, _, _, _, rfl, ?_⟩
      exact finR ret
  | two ps qs =>
    obtain ⟨rfl, hl, hl'⟩ := hf
    have e1 := at_pr (ps := ps) (i := i) (by omega)
    have e2 := at_pr (ps := ps) (i := j) (by omega)
    have e3 := at_pr (ps := qs) (i := i) (by omega)
    have e4 := at_pr (ps := qs) (i := j) (by omega)
    try simp -dsimp -implicitDefEqProofs only [↓rds1, ↓rds2, ↓rds3, ↓rds4, ↓rds5, ↓rds6, ↓rds7, ↓rds8, ↓rds9, ↓rds10, ↓rds11, ↓rds12, List.set_cons_zero, List.set_cons_succ, ne_eq, not_false_eq_true, decide_eq_true_eq, Bool.or_true, Bool.or_false, Bool.true_or, Bool.false_or, Bool.and_true, Bool.true_and, Bool.and_false, Bool.false_and, Bool.not_true, Bool.not_false, reduceCtorEq, beq_self_eq_true, true_and, and_true, figD, br, bl]
    refine cmp_list [.v (.str (lw (pAt ps i).1 (pAt ps i).2 (pAt ps j).1 (pAt ps j).2)), .v (.str (lw (pAt qs i).1 (pAt qs i).2 (pAt qs j).1 (pAt qs j).2))] trivial rfl (by show 2 ≤ 1000000; decide) ?_ ?_
    · intro k x y hx hy S N hS
      match k, hx, hy with
      | 0, hx, hy =>
        cases hx
        cases hy
        try simp -dsimp -implicitDefEqProofs only [↓rds1, ↓rds2, ↓rds3, ↓rds4, ↓rds5, ↓rds6, ↓rds7, ↓rds8, ↓rds9, ↓rds10, ↓rds11, ↓rds12, List.set_cons_zero, List.set_cons_succ, ne_eq, not_false_eq_true, decide_eq_true_eq, Bool.or_true, Bool.or_false, Bool.true_or, Bool.false_or, Bool.and_true, Bool.true_and, Bool.and_false, Bool.false_and, Bool.not_true, Bool.not_false, reduceCtorEq, beq_self_eq_true, true_and, and_true, e1, e2]
        refine cl_i ⟨rfl, _, _, _, _, rfl, ?_⟩
        exact hS
      | 1, hx, hy =>
        cases hx
        cases hy
        try simp -dsimp -implicitDefEqProofs only [↓rds1, ↓rds2, ↓rds3, ↓rds4, ↓rds5, ↓rds6, ↓rds7, ↓rds8, ↓rds9, ↓rds10, ↓rds11, ↓rds12, List.set_cons_zero, List.set_cons_succ, ne_eq, not_false_eq_true, decide_eq_true_eq, Bool.or_true, Bool.or_false, Bool.true_or, Bool.false_or, Bool.and_true, Bool.true_and, Bool.and_false, Bool.false_and, Bool.not_true, Bool.not_false, reduceCtorEq, beq_self_eq_true, true_and, and_true, e3, e4]
        refine cl_i ⟨rfl, _, _, _, _, rfl, ?_⟩
        exact hS
    · intro p hp
      try simp -dsimp -implicitDefEqProofs only [↓rds1, ↓rds2, ↓rds3, ↓rds4, ↓rds5, ↓rds6, ↓rds7, ↓rds8, ↓rds9, ↓rds10, ↓rds11, ↓rds12, List.set_cons_zero, List.set_cons_succ, ne_eq, not_false_eq_true, decide_eq_true_eq, Bool.or_true, Bool.or_false, Bool.true_or, Bool.false_or, Bool.and_true, Bool.true_and, Bool.and_false, Bool.false_and, Bool.not_true, Bool.not_false, reduceCtorEq, beq_self_eq_true, true_and, and_true, strsD, List.map_cons, List.map_nil, lw_len]
      rw [join_two]
      exact ⟨by show [1, 1].sum + 2 * 0 ≤ 16777216; decide, finI (Sub.put hp) ret⟩
/-! ### moments -/
def sp_line_moments : SpD := fun ds h Q _ => ds.length = 1 ∧ ∃ ps : List Pr, ds = [.t (ps.map prD)] ∧ ps ≠ [] ∧ ps.length ≤ 1000 ∧ Q (.v (.int (1 + maxI (ps.map fun p => maxI [p.1, p.2])))) h
def rd_line_moments (E : ER) : SD :=
  dRet (d2 pAdd (dC (.v (.int 1))) (dCB cMax (dCons (dLc (iAnyD (dVar 0)) (nG 1) (dYes) (dCB cMax (dCons (dVar 1) (dNil))) [1]) (dNil))))
abbrev N_line_moments : List Str := ["figure", "pair"]
theorem ok_line_moments : ∀ ds h Q E, sp_line_moments ds h Q E → rd_line_moments (fun x _ h' => E x h') (fin Q) (startD N_line_moments ds) h := by
  rintro ds h Q E ⟨_, ps, rfl, hne, hl, ret⟩
  show rd_line_moments _ _ [some (.t (ps.map prD)), none] h
  unfold rd_line_moments
  try simp -dsimp -implicitDefEqProofs only [↓rds1, ↓rds2, ↓rds3, ↓rds4, ↓rds5, ↓rds6, ↓rds7, ↓rds8, ↓rds9, ↓rds10, ↓rds11, ↓rds12, List.set_cons_zero, List.set_cons_succ, ne_eq, not_false_eq_true, decide_eq_true_eq, Bool.or_true, Bool.or_false, Bool.true_or, Bool.false_or, Bool.and_true, Bool.true_and, Bool.and_false, Bool.false_and, Bool.not_true, Bool.not_false, reduceCtorEq, beq_self_eq_true, true_and, and_true]
  refine cmp_list (intsD (ps.map fun p => maxI [p.1, p.2])) trivial (by rw [len_intsD, List.length_map, List.length_map]) (by rw [List.length_map]; omega) ?_ ?_
  · intro k x y hx hy S N hS
    unfold intsD at hy
    rw [List.getElem?_map] at hx hy
    rw [List.getElem?_map] at hy
    cases e : ps[k]? with
    | none => rw [e] at hx; cases hx
    | some p =>
      rw [e] at hx hy
      cases hx
      cases hy
      try simp -dsimp -implicitDefEqProofs only [↓rds1, ↓rds2, ↓rds3, ↓rds4, ↓rds5, ↓rds6, ↓rds7, ↓rds8, ↓rds9, ↓rds10, ↓rds11, ↓rds12, List.set_cons_zero, List.set_cons_succ, ne_eq, not_false_eq_true, decide_eq_true_eq, Bool.or_true, Bool.or_false, Bool.true_or, Bool.false_or, Bool.and_true, Bool.true_and, Bool.and_false, Bool.false_and, Bool.not_true, Bool.not_false, reduceCtorEq, beq_self_eq_true, true_and, and_true, prD]
      exact hS
  · intro p hp
    try simp -dsimp -implicitDefEqProofs only [↓rds1, ↓rds2, ↓rds3, ↓rds4, ↓rds5, ↓rds6, ↓rds7, ↓rds8, ↓rds9, ↓rds10, ↓rds11, ↓rds12, List.set_cons_zero, List.set_cons_succ, ne_eq, not_false_eq_true, decide_eq_true_eq, Bool.or_true, Bool.or_false, Bool.true_or, Bool.false_or, Bool.and_true, Bool.true_and, Bool.and_false, Bool.false_and, Bool.not_true, Bool.not_false, reduceCtorEq, beq_self_eq_true, true_and, and_true, intsOf_ints]
    refine ⟨fun e => hne (List.map_eq_nil_iff.mp e), finI (Sub.put hp) ret⟩
end DL
/-! DLaa: ways of all kinds, told back and mirrored, checked -/
namespace DL
open PySem L2
def sD (z : Str) : D := .v (.str z)
def lws : List Str := ["a", "m", "o", "E", "W", "B", "s", "b", "w", "e", "O", "M", "A"]
def rws : List Str := ["bi", "be", "bo", "ib", "ii", "II", "ie", "io", "eb", "ei", "eo", "ob", "oi", "oe", "oo", "OO"]
def bws : List Str := lws.flatMap fun a => lws.map fun b => a ++ b
/-- the ways of a kind -/
def wsL (kind : Str) : List Str := if kind = "line" then lws else if kind = "ring" then rws else bws
def c_LINE : D := .v (.str "amoEWBsbweOMA")
def c_RING : D := .t [.v (.str "bi"), .v (.str "be"), .v (.str "bo"), .v (.str "ib"), .v (.str "ii"), .v (.str "II"), .v (.str "ie"), .v (.str "io"), .v (.str "eb"), .v (.str "ei"), .v (.str "eo"), .v (.str "ob"), .v (.str "oi"), .v (.str "oe"), .v (.str "oo"), .v (.str "OO")]
def c_KINDS : D := .t [.v (.str "line"), .v (.str "ring"), .v (.str "box")]
def k_BACK : List (Str × D) := [("a", .v (.str "A")), ("m", .v (.str "M")), ("o", .v (.str "O")), ("E", .v (.str "e")), ("W", .v (.str "w")), ("B", .v (.str "b")), ("s", .v (.str "s")), ("b", .v (.str "B")), ("w", .v (.str "W")), ("e", .v (.str "E")), ("O", .v (.str "o")), ("M", .v (.str "m")), ("A", .v (.str "a"))]
def k_MIRRORED : List (Str × D) := [("a", .v (.str "A")), ("m", .v (.str "M")), ("o", .v (.str "O")), ("E", .v (.str "B")), ("W", .v (.str "W")), ("B", .v (.str "E")), ("s", .v (.str "s")), ("b", .v (.str "e")), ("w", .v (.str "w")), ("e", .v (.str "b")), ("O", .v (.str "o")), ("M", .v (.str "m")), ("A", .v (.str "a"))]
theorem ring_D : c_RING = .t (rws.map sD) := by decide
theorem chars_LINE : chars "amoEWBsbweOMA" = lws.map sD := by decide
/-! ### what stands -/
theorem nf {h : Hd} {a b : Addr} {o : O} (e : put h a o b = none) : b ≠ a := fun z => by rw [z, put_same] at e; cases e
theorem fo {h : Hd} {a b : Addr} {o : O} (e : put h a o b = none) : h b = none := by rw [put_ne (nf e)] at e; exact e
theorem on {h : Hd} {a b : Addr} {o : O} (x : h a = some o) (e : h b = none) : a ≠ b := fun z => by rw [z, e] at x; cases x
theorem sub_put {h h' : Hd} {a : Addr} {o : O} (s : Sub h h') (e : h' a = some o) : Sub (put h a o) h' := fun b u eb => by
  by_cases z : b = a
  · subst z; rw [put_same] at eb; cases eb; exact e
  · rw [put_ne z] at eb; exact s b u eb
/-- all that stands but for p -/
def SubX (p : Addr) (h h' : Hd) : Prop := ∀ a o, a ≠ p → h a = some o → h' a = some o
theorem SubX.refl (p : Addr) (h : Hd) : SubX p h h := fun _ _ _ e => e
theorem SubX.new {p l : Addr} {h h' : Hd} {o : O} (s : SubX p h h') (n : h' l = none) : SubX p h (put h' l o) := fun a u na e => Sub.put n a u (s a u na e)
theorem SubX.set {p : Addr} {h h' : Hd} {o : O} (s : SubX p h h') : SubX p h (put h' p o) := fun a u na e => by rw [put_ne na]; exact s a u na e
theorem SubX.fin {p : Addr} {h h' : Hd} {o : O} (s : SubX p h h') (e : h' p = some o) : Sub (put h p o) h' := fun b u eb => by
  by_cases z : b = p
  · subst z; rw [put_same] at eb; cases eb; exact e
  · rw [put_ne z] at eb; exact s b u z eb
theorem SubX.trans {p : Addr} {h h1 h2 : Hd} (a : SubX p h h1) (b : SubX p h1 h2) : SubX p h h2 := fun c o n e => b c o n (a c o n e)
theorem SubX.sub {p : Addr} {h h1 h2 : Hd} (a : SubX p h h1) (b : Sub h1 h2) : SubX p h h2 := fun c o n e => b c o (a c o n e)
/-! ### single signs -/
def one (c : Nat) : Str := ⟨#[c]⟩
def lnC : List Nat := ("amoEWBsbweOMA" : Str).cps.toList
theorem lws_one : lws = lnC.map one := by decide
theorem one_inj {c d : Nat} (h : one c = one d) : c = d := by
  have : (one c).cps.toList = (one d).cps.toList := by rw [h]
  exact (List.cons.inj this).1
theorem one_lws {c : Nat} : one c ∈ lws ↔ c ∈ lnC := by
  rw [lws_one]
  constructor
  · intro h
    obtain ⟨d, hd, e⟩ := List.mem_map.mp h
    rw [← one_inj e]; exact hd
  · exact fun h => List.mem_map_of_mem h
theorem strIn_one (c : Nat) (z : Str) : strIn ⟨#[c]⟩ z = decide (c ∈ z.cps.toList) := StrLaws.found_one z c
theorem strIn_LINE (c : Nat) : strIn ⟨#[c]⟩ "amoEWBsbweOMA" = decide (c ∈ lnC) := strIn_one c _
theorem str_ext {a b : Str} (h : a.cps.toList = b.cps.toList) : a = b := by
  cases a; cases b
  exact congrArg _ (Array.toList_inj.mp h)
theorem len_one {w : Str} (h : w.length = 1) : ∃ c, w = one c ∧ w.cps.toList = [c] := by
  have h : w.cps.toList.length = 1 := by rw [Array.length_toList]; exact h
  match e : w.cps.toList, h with
  | [c], _ => exact ⟨c, str_ext e, rfl⟩
theorem len_two {w : Str} (h : w.length = 2) : ∃ c d, w = one c ++ one d ∧ w.cps.toList = [c, d] := by
  have h : w.cps.toList.length = 2 := by rw [Array.length_toList]; exact h
  match e : w.cps.toList, h with
  | [c, d], _ => exact ⟨c, d, str_ext e, rfl⟩
theorem bws_two {c d : Nat} : one c ++ one d ∈ bws ↔ c ∈ lnC ∧ d ∈ lnC := by
  unfold bws
  rw [List.mem_flatMap]
  constructor
  · rintro ⟨a, ha, h⟩
    obtain ⟨b, hb, e⟩ := List.mem_map.mp h
    rw [lws_one] at ha hb
    obtain ⟨x, hx, rfl⟩ := List.mem_map.mp ha
    obtain ⟨y, hy, rfl⟩ := List.mem_map.mp hb
    have : (one x ++ one y).cps.toList = (one c ++ one d).cps.toList := by rw [e]
    have : [x, y] = [c, d] := this
    cases this
    exact ⟨hx, hy⟩
  · rintro ⟨hc, hd⟩
    exact ⟨one c, one_lws.mpr hc, List.mem_map.mpr ⟨one d, one_lws.mpr hd, rfl⟩⟩
theorem bws_len : ∀ w ∈ bws, w.length = 2 := by decide +kernel
theorem lws_len : ∀ w ∈ lws, w.length = 1 := by decide +kernel
theorem rws_len : ∀ w ∈ rws, w.length = 2 := by decide +kernel
theorem app_len (a b : Str) : (a ++ b).length = a.length + b.length := Array.size_append
theorem cutS_len (a : Str) (lo hi : Option Int) : (cutS a lo hi).length ≤ a.length := by
  have e : ∀ x : Str, x.cps.toList.length = x.length := fun x => Array.length_toList
  rw [← e, ← e]
  unfold cutS
  show (List.take _ _).length ≤ _
  rw [List.length_take, List.length_drop]
  omega
/-! ### places -/
theorem at_list {l : List Str} {k : Int} (k0 : 0 ≤ k) (k1 : k < (l.length : Int)) : ∃ z ∈ l, atI (l.map sD) k = some (sD z) := by
  obtain ⟨j, rfl⟩ := Int.eq_ofNat_of_zero_le k0
  have hj : j < l.length := by omega
  exact ⟨l[j], List.getElem_mem hj, atI_nat (by rw [List.getElem?_map, List.getElem?_eq_getElem hj]; rfl)⟩
theorem at_sign {t : Str} {k : Int} {n : Nat} (hl : t.length = n) (k0 : 0 ≤ k) (k1 : k < n) : ∃ c ∈ t.cps.toList, atI t.cps.toList k = some c := by
  obtain ⟨j, rfl⟩ := Int.eq_ofNat_of_zero_le k0
  have hj : j < t.cps.toList.length := by rw [Array.length_toList]; show j < t.length; omega
  exact ⟨t.cps.toList[j], List.getElem_mem hj, atI_nat (List.getElem?_eq_getElem hj)⟩
theorem at_kind {k : Int} (k0 : 0 ≤ k) (k1 : k < 3) : ∃ kind ∈ kds, atI [D.v (.str "line"), D.v (.str "ring"), D.v (.str "box")] k = some (.v (.str kind)) := by
  have : k = 0 ∨ k = 1 ∨ k = 2 := by omega
  rcases this with rfl | rfl | rfl
  · exact ⟨"line", by decide, at_0⟩
  · exact ⟨"ring", by decide, at_1⟩
  · exact ⟨"box", by decide, at_2⟩
theorem inL_sD {w : Str} : ∀ {l : List Str}, inL (.v (.str w)) (l.map sD) = decide (w ∈ l)
  | [] => by simp [inL]
  | a :: r => by
    have ih := inL_sD (w := w) (l := r)
    unfold inL at ih ⊢
    rw [List.map_cons, List.any_cons, ih]
    by_cases e : a = w
    · subst e
      have : eqD (sD a) (.v (.str a)) = true := by unfold sD eqD; exact eqV_str.trans (by simp)
      rw [this]; simp
    · have : eqD (sD a) (.v (.str w)) = false := by unfold sD eqD; exact eqV_str.trans (by simp [e])
      rw [this, Bool.false_or]
      have e' : w ≠ a := fun z => e z.symm
      simp [e']
def onS (f : Str → Str) : D → D
  | .v (.str z) => .v (.str (f z))
  | d => d
theorem onS_sD (f : Str → Str) (l : List Str) : (l.map sD).map (onS f) = (l.map f).map sD := by rw [List.map_map, List.map_map]; rfl
/-! ### ways, judged -/
theorem kds_or {kind : Str} (h : kind ∈ kds) : kind = "line" ∨ kind = "ring" ∨ kind = "box" := by
  simpa [kds] using h
theorem ws_line : wsL "line" = lws := rfl
theorem ws_ring : wsL "ring" = rws := by decide
theorem ws_box : wsL "box" = bws := by decide +kernel
def sp_is_way : SpD := fun ds h Q _ => ds.length = 2 ∧ ∃ kind w : Str, ds = [.v (.str kind), .v (.str w)] ∧ kind ∈ kds ∧ w.length ≤ 1000 ∧ Q (.v (.bl (decide (w ∈ wsL kind)))) h
def rd_is_way (E : ER) : SD :=
  dSeq (dIfS (dTest (d2 pEqA (dVar 0) (dC (.v (.str "line"))))) (dRet (dAndV (d2 pEqA (dCB cLen (dCons (dVar 1) (dNil))) (dC (.v (.int 1)))) (d2 pMem (dVar 1) (dC c_LINE)))) (dNext))
  (dSeq (dIfS (dTest (d2 pEqA (dVar 0) (dC (.v (.str "ring"))))) (dRet (d2 pMem (dVar 1) (dC c_RING))) (dNext))
  (dRet (dAndV (d2 pEqA (dCB cLen (dCons (dVar 1) (dNil))) (dC (.v (.int 2)))) (dAndV (d2 pMem (d2 pIt (dVar 1) (dC (.v (.int 0)))) (dC c_LINE)) (d2 pMem (d2 pIt (dVar 1) (dC (.v (.int 1)))) (dC c_LINE))))))
abbrev N_is_way : List Str := ["kind", "word"]
theorem ok_is_way : ∀ ds h Q E, sp_is_way ds h Q E → rd_is_way (fun x _ h' => E x h') (fin Q) (startD N_is_way ds) h := by
  rintro ds h Q E ⟨_, kind, w, rfl, hk, hl, q⟩
  show rd_is_way _ _ [some (.v (.str kind)), some (.v (.str w))] h
  unfold rd_is_way
  have l1000 : (1000 : Nat) ≤ sizeLine := by decide
  have hz : w.length ≤ sizeLine := Nat.le_trans hl l1000
  rcases kds_or hk with rfl | rfl | rfl
  · try simp -dsimp -implicitDefEqProofs only [↓rds13, ↓rds14, ↓rds1, ↓rds2, ↓rds3, ↓rds4, ↓rds5, ↓rds6, ↓rds7, ↓rds8, ↓rds9, ↓rds10, ↓rds11, ↓rds12, List.set_cons_zero, List.set_cons_succ, ne_eq, not_false_eq_true, decide_eq_true_eq, Bool.or_true, Bool.or_false, Bool.true_or, Bool.false_or, Bool.and_true, Bool.true_and, Bool.and_false, Bool.false_and, Bool.not_true, Bool.not_false, reduceCtorEq, beq_self_eq_true, true_and, and_true, c_LINE]
    refine ⟨hz, dIte_by (fun e => ?_) fun e => ?_⟩
    · obtain ⟨c, rfl, _⟩ := len_one (w := w) (by omega)
      try simp -dsimp -implicitDefEqProofs only [↓rds13, ↓rds14, ↓rds1, ↓rds2, ↓rds3, ↓rds4, ↓rds5, ↓rds6, ↓rds7, ↓rds8, ↓rds9, ↓rds10, ↓rds11, ↓rds12, List.set_cons_zero, List.set_cons_succ, ne_eq, not_false_eq_true, decide_eq_true_eq, Bool.or_true, Bool.or_false, Bool.true_or, Bool.false_or, Bool.and_true, Bool.true_and, Bool.and_false, Bool.false_and, Bool.not_true, Bool.not_false, reduceCtorEq, beq_self_eq_true, true_and, and_true, c_LINE]
      rw [show strIn (one c) "amoEWBsbweOMA" = decide (one c ∈ wsL "line") from (strIn_LINE c).trans (by rw [ws_line]; exact decide_eq_decide.mpr one_lws.symm)]
      exact finR q
    · have : decide (w ∈ wsL "line") = false := by
        rw [ws_line]
        exact decide_eq_false fun hw => e (by rw [lws_len w hw]; rfl)
      rw [this] at q
      try simp -dsimp -implicitDefEqProofs only [↓rds13, ↓rds14, ↓rds1, ↓rds2, ↓rds3, ↓rds4, ↓rds5, ↓rds6, ↓rds7, ↓rds8, ↓rds9, ↓rds10, ↓rds11, ↓rds12, List.set_cons_zero, List.set_cons_succ, ne_eq, not_false_eq_true, decide_eq_true_eq, Bool.or_true, Bool.or_false, Bool.true_or, Bool.false_or, Bool.and_true, Bool.true_and, Bool.and_false, Bool.false_and, Bool.not_true, Bool.not_false, reduceCtorEq, beq_self_eq_true, true_and, and_true]
      exact finR q
  · try simp -dsimp -implicitDefEqProofs only [↓rds13, ↓rds14, ↓rds1, ↓rds2, ↓rds3, ↓rds4, ↓rds5, ↓rds6, ↓rds7, ↓rds8, ↓rds9, ↓rds10, ↓rds11, ↓rds12, List.set_cons_zero, List.set_cons_succ, ne_eq, not_false_eq_true, decide_eq_true_eq, Bool.or_true, Bool.or_false, Bool.true_or, Bool.false_or, Bool.and_true, Bool.true_and, Bool.and_false, Bool.false_and, Bool.not_true, Bool.not_false, reduceCtorEq, beq_self_eq_true, true_and, and_true, rl, ring_D, inL_sD]
    rw [ws_ring] at q
    exact ⟨rfl, by decide, finR q⟩
  · try simp -dsimp -implicitDefEqProofs only [↓rds13, ↓rds14, ↓rds1, ↓rds2, ↓rds3, ↓rds4, ↓rds5, ↓rds6, ↓rds7, ↓rds8, ↓rds9, ↓rds10, ↓rds11, ↓rds12, List.set_cons_zero, List.set_cons_succ, ne_eq, not_false_eq_true, decide_eq_true_eq, Bool.or_true, Bool.or_false, Bool.true_or, Bool.false_or, Bool.and_true, Bool.true_and, Bool.and_false, Bool.false_and, Bool.not_true, Bool.not_false, reduceCtorEq, beq_self_eq_true, true_and, and_true, bl, br]
    refine ⟨hz, dIte_by (fun e => ?_) fun e => ?_⟩
    · obtain ⟨c, d, rfl, e2⟩ := len_two (w := w) (by omega)
      have q : Q (.v (.bl (decide (c ∈ lnC ∧ d ∈ lnC)))) h := by
        have := q
        rw [ws_box, decide_eq_decide.mpr (bws_two (c := c) (d := d))] at this
        exact this
      have e0 : atI (one c ++ one d).cps.toList 0 = some c := by rw [e2]; exact atI_nat (j := 0) rfl
      have e1 : atI (one c ++ one d).cps.toList 1 = some d := by rw [e2]; exact atI_nat (j := 1) rfl
      have l2 : (2 : Nat) ≤ sizeLine := by decide
      try simp -dsimp -implicitDefEqProofs only [↓rds13, ↓rds14, ↓rds1, ↓rds2, ↓rds3, ↓rds4, ↓rds5, ↓rds6, ↓rds7, ↓rds8, ↓rds9, ↓rds10, ↓rds11, ↓rds12, List.set_cons_zero, List.set_cons_succ, ne_eq, not_false_eq_true, decide_eq_true_eq, Bool.or_true, Bool.or_false, Bool.true_or, Bool.false_or, Bool.and_true, Bool.true_and, Bool.and_false, Bool.false_and, Bool.not_true, Bool.not_false, reduceCtorEq, beq_self_eq_true, true_and, and_true, c_LINE, e0, strIn_LINE]
      refine ⟨hz, dIte_by (fun e3 => ?_) fun e3 => ?_⟩
      · try simp -dsimp -implicitDefEqProofs only [↓rds13, ↓rds14, ↓rds1, ↓rds2, ↓rds3, ↓rds4, ↓rds5, ↓rds6, ↓rds7, ↓rds8, ↓rds9, ↓rds10, ↓rds11, ↓rds12, List.set_cons_zero, List.set_cons_succ, ne_eq, not_false_eq_true, decide_eq_true_eq, Bool.or_true, Bool.or_false, Bool.true_or, Bool.false_or, Bool.and_true, Bool.true_and, Bool.and_false, Bool.false_and, Bool.not_true, Bool.not_false, reduceCtorEq, beq_self_eq_true, true_and, and_true, c_LINE, e1, strIn_LINE]
        refine ⟨hz, ?_⟩
        rw [show decide (d ∈ lnC) = decide (c ∈ lnC ∧ d ∈ lnC) from decide_eq_decide.mpr ⟨fun h => ⟨by simpa using e3, h⟩, fun h => h.2⟩]
        exact finR q
      · have : decide (c ∈ lnC ∧ d ∈ lnC) = false := decide_eq_false fun h => e3 (by simpa using h.1)
        rw [this] at q
        try simp -dsimp -implicitDefEqProofs only [↓rds13, ↓rds14, ↓rds1, ↓rds2, ↓rds3, ↓rds4, ↓rds5, ↓rds6, ↓rds7, ↓rds8, ↓rds9, ↓rds10, ↓rds11, ↓rds12, List.set_cons_zero, List.set_cons_succ, ne_eq, not_false_eq_true, decide_eq_true_eq, Bool.or_true, Bool.or_false, Bool.true_or, Bool.false_or, Bool.and_true, Bool.true_and, Bool.and_false, Bool.false_and, Bool.not_true, Bool.not_false, reduceCtorEq, beq_self_eq_true, true_and, and_true]
        exact finR q
    · have : decide (w ∈ wsL "box") = false := by
        rw [ws_box]
        exact decide_eq_false fun hw => e (by rw [bws_len w hw]; rfl)
      rw [this] at q
      try simp -dsimp -implicitDefEqProofs only [↓rds13, ↓rds14, ↓rds1, ↓rds2, ↓rds3, ↓rds4, ↓rds5, ↓rds6, ↓rds7, ↓rds8, ↓rds9, ↓rds10, ↓rds11, ↓rds12, List.set_cons_zero, List.set_cons_succ, ne_eq, not_false_eq_true, decide_eq_true_eq, Bool.or_true, Bool.or_false, Bool.true_or, Bool.false_or, Bool.and_true, Bool.true_and, Bool.and_false, Bool.false_and, Bool.not_true, Bool.not_false, reduceCtorEq, beq_self_eq_true, true_and, and_true]
      exact finR q
def sp_ways : SpD := fun ds h Q E => ds.length = 1 ∧ ∃ kind : Str, ds = [.v (.str kind)] ∧ (kind ∈ kds → Q (.t ((wsL kind).map sD)) h) ∧ (kind ∉ kds → E ⟨"UnknownKind", [("kind", .v (.str kind))]⟩ h)
def rd_ways (E : ER) : SD :=
  dSeq (dIfS (dTest (d2 pEqA (dVar 0) (dC (.v (.str "line"))))) (dRet (dCB cTuple (dCons (dCB cList (dCons (dC c_LINE) (dNil))) (dNil)))) (dNext))
  (dSeq (dIfS (dTest (d2 pEqA (dVar 0) (dC (.v (.str "ring"))))) (dRet (dCB cTuple (dCons (dCB cList (dCons (dC c_RING) (dNil))) (dNil)))) (dNext))
  (dSeq (dIfS (dTest (d2 pEqA (dVar 0) (dC (.v (.str "box"))))) (dRet (dCB cTuple (dCons (dLc2 (iAnyD (dC c_LINE)) (nG 1) (dYes) (iAnyD (dC c_LINE)) (nG 2) (dYes) (d2 pAdd (dVar 1) (dVar 2)) [1, 2] [2]) (dNil)))) (dNext))
  (dRaise "UnknownKind" ["kind"] E (dCons (dVar 0) (dNil)))))
abbrev N_ways : List Str := ["kind", "one", "other"]
theorem ok_ways : ∀ ds h Q E, sp_ways ds h Q E → rd_ways (fun x _ h' => E x h') (fin Q) (startD N_ways ds) h := by
  rintro ds h Q E ⟨_, kind, rfl, q, ex⟩
  show rd_ways _ _ [some (.v (.str kind)), none, none] h
  unfold rd_ways
  by_cases k1 : kind = "line"
  · subst k1
    try simp -dsimp -implicitDefEqProofs only [↓rds13, ↓rds14, ↓rds1, ↓rds2, ↓rds3, ↓rds4, ↓rds5, ↓rds6, ↓rds7, ↓rds8, ↓rds9, ↓rds10, ↓rds11, ↓rds12, List.set_cons_zero, List.set_cons_succ, ne_eq, not_false_eq_true, decide_eq_true_eq, Bool.or_true, Bool.or_false, Bool.true_or, Bool.false_or, Bool.and_true, Bool.true_and, Bool.and_false, Bool.false_and, Bool.not_true, Bool.not_false, reduceCtorEq, beq_self_eq_true, true_and, and_true, c_LINE, chars_LINE]
    refine ⟨by decide, al_i fun p hp => ?_⟩
    try simp -dsimp -implicitDefEqProofs only [↓rds13, ↓rds14, ↓rds1, ↓rds2, ↓rds3, ↓rds4, ↓rds5, ↓rds6, ↓rds7, ↓rds8, ↓rds9, ↓rds10, ↓rds11, ↓rds12, List.set_cons_zero, List.set_cons_succ, ne_eq, not_false_eq_true, decide_eq_true_eq, Bool.or_true, Bool.or_false, Bool.true_or, Bool.false_or, Bool.and_true, Bool.true_and, Bool.and_false, Bool.false_and, Bool.not_true, Bool.not_false, reduceCtorEq, beq_self_eq_true, true_and, and_true, chars_LINE]
    exact finI (Sub.put hp) (q (by decide))
  by_cases k2 : kind = "ring"
  · subst k2
    try simp -dsimp -implicitDefEqProofs only [↓rds13, ↓rds14, ↓rds1, ↓rds2, ↓rds3, ↓rds4, ↓rds5, ↓rds6, ↓rds7, ↓rds8, ↓rds9, ↓rds10, ↓rds11, ↓rds12, List.set_cons_zero, List.set_cons_succ, ne_eq, not_false_eq_true, decide_eq_true_eq, Bool.or_true, Bool.or_false, Bool.true_or, Bool.false_or, Bool.and_true, Bool.true_and, Bool.and_false, Bool.false_and, Bool.not_true, Bool.not_false, reduceCtorEq, beq_self_eq_true, true_and, and_true, rl, ring_D]
    refine al_i fun p hp => ?_
    try simp -dsimp -implicitDefEqProofs only [↓rds13, ↓rds14, ↓rds1, ↓rds2, ↓rds3, ↓rds4, ↓rds5, ↓rds6, ↓rds7, ↓rds8, ↓rds9, ↓rds10, ↓rds11, ↓rds12, List.set_cons_zero, List.set_cons_succ, ne_eq, not_false_eq_true, decide_eq_true_eq, Bool.or_true, Bool.or_false, Bool.true_or, Bool.false_or, Bool.and_true, Bool.true_and, Bool.and_false, Bool.false_and, Bool.not_true, Bool.not_false, reduceCtorEq, beq_self_eq_true, true_and, and_true]
    exact finI (Sub.put hp) (q (by decide))
  by_cases k3 : kind = "box"
  · subst k3
    try simp -dsimp -implicitDefEqProofs only [↓rds13, ↓rds14, ↓rds1, ↓rds2, ↓rds3, ↓rds4, ↓rds5, ↓rds6, ↓rds7, ↓rds8, ↓rds9, ↓rds10, ↓rds11, ↓rds12, List.set_cons_zero, List.set_cons_succ, ne_eq, not_false_eq_true, decide_eq_true_eq, Bool.or_true, Bool.or_false, Bool.true_or, Bool.false_or, Bool.and_true, Bool.true_and, Bool.and_false, Bool.false_and, Bool.not_true, Bool.not_false, reduceCtorEq, beq_self_eq_true, true_and, and_true, bl, br, c_LINE, chars_LINE]
    refine cmp2_of (fun x => lws.map fun b => onS (fun a => a ++ b) x) trivial ?_ ?_ ?_
    · decide +kernel
    · intro x hx S N acc hl hS
      obtain ⟨z, hz, rfl⟩ := List.mem_map.mp hx
      have e : ((lws.map sD).map (onS fun b => z ++ b)) = lws.map fun b => onS (fun a => a ++ b) (sD z) := by rw [onS_sD, List.map_map]; rfl
      rw [← e] at hS
      try simp -dsimp -implicitDefEqProofs only [↓rds13, ↓rds14, ↓rds1, ↓rds2, ↓rds3, ↓rds4, ↓rds5, ↓rds6, ↓rds7, ↓rds8, ↓rds9, ↓rds10, ↓rds11, ↓rds12, List.set_cons_zero, List.set_cons_succ, ne_eq, not_false_eq_true, decide_eq_true_eq, Bool.or_true, Bool.or_false, Bool.true_or, Bool.false_or, Bool.and_true, Bool.true_and, Bool.and_false, Bool.false_and, Bool.not_true, Bool.not_false, reduceCtorEq, beq_self_eq_true, true_and, and_true, sD, c_LINE, chars_LINE]
      refine comp_map (items := lws.map sD) (onS fun b => z ++ b) trivial ?_ ?_ hS
      · rw [List.length_map] at hl ⊢; exact hl
      · intro y hy S N hS
        obtain ⟨v, hv, rfl⟩ := List.mem_map.mp hy
        try simp -dsimp -implicitDefEqProofs only [↓rds13, ↓rds14, ↓rds1, ↓rds2, ↓rds3, ↓rds4, ↓rds5, ↓rds6, ↓rds7, ↓rds8, ↓rds9, ↓rds10, ↓rds11, ↓rds12, List.set_cons_zero, List.set_cons_succ, ne_eq, not_false_eq_true, decide_eq_true_eq, Bool.or_true, Bool.or_false, Bool.true_or, Bool.false_or, Bool.and_true, Bool.true_and, Bool.and_false, Bool.false_and, Bool.not_true, Bool.not_false, reduceCtorEq, beq_self_eq_true, true_and, and_true, sD]
        refine ⟨?_, hS⟩
        rw [lws_len z hz, lws_len v hv]
        decide
    intro p hp
    try simp -dsimp -implicitDefEqProofs only [↓rds13, ↓rds14, ↓rds1, ↓rds2, ↓rds3, ↓rds4, ↓rds5, ↓rds6, ↓rds7, ↓rds8, ↓rds9, ↓rds10, ↓rds11, ↓rds12, List.set_cons_zero, List.set_cons_succ, ne_eq, not_false_eq_true, decide_eq_true_eq, Bool.or_true, Bool.or_false, Bool.true_or, Bool.false_or, Bool.and_true, Bool.true_and, Bool.and_false, Bool.false_and, Bool.not_true, Bool.not_false, reduceCtorEq, beq_self_eq_true, true_and, and_true]
    rw [show (lws.map sD).flatMap (fun x => lws.map fun b => onS (fun a => a ++ b) x) = (wsL "box").map sD from by decide +kernel]
    exact finI (Sub.put hp) (q (by decide))
  try simp -dsimp -implicitDefEqProofs only [↓rds13, ↓rds14, ↓rds1, ↓rds2, ↓rds3, ↓rds4, ↓rds5, ↓rds6, ↓rds7, ↓rds8, ↓rds9, ↓rds10, ↓rds11, ↓rds12, List.set_cons_zero, List.set_cons_succ, ne_eq, not_false_eq_true, decide_eq_true_eq, Bool.or_true, Bool.or_false, Bool.true_or, Bool.false_or, Bool.and_true, Bool.true_and, Bool.and_false, Bool.false_and, Bool.not_true, Bool.not_false, reduceCtorEq, beq_self_eq_true, true_and, and_true, k1, k2, k3]
  exact ex (by simp [kds, k1, k2, k3])
def sp_check_way : SpD := fun ds h Q E => ds.length = 2 ∧ ∃ kind w : Str, ds = [.v (.str kind), .v (.str w)] ∧ kind ∈ kds ∧ w.length ≤ 1000 ∧ (w ∈ wsL kind → Q (.v .non) h) ∧ (w ∉ wsL kind → E ⟨"BadWay", [("way", .v (.str w))]⟩ h)
def rd_check_way (E : ER) : SD :=
  dSeq (dIfS (dTest (d2 pNotMem (dVar 0) (dC c_KINDS))) (dRaise "UnknownKind" ["kind"] E (dCons (dVar 0) (dNil))) (dNext))
  (dIfS (dNot (dTest (dCall sp_is_way E (dCons (dVar 0) (dCons (dVar 1) (dNil)))))) (dRaise "BadWay" ["way"] E (dCons (dVar 1) (dNil))) (dNext))
abbrev N_check_way : List Str := ["kind", "word"]
theorem kds_in {kind : Str} (hk : kind ∈ kds) : inL (.v (.str kind)) [.v (.str "line"), .v (.str "ring"), .v (.str "box")] = true := by
  rcases kds_or hk with rfl | rfl | rfl <;> decide
theorem ok_check_way : ∀ ds h Q E, sp_check_way ds h Q E → rd_check_way (fun x _ h' => E x h') (fin Q) (startD N_check_way ds) h := by
  rintro ds h Q E ⟨_, kind, w, rfl, hk, hl, q, ex⟩
  show rd_check_way _ _ [some (.v (.str kind)), some (.v (.str w))] h
  unfold rd_check_way
  have e := kds_in hk
  try simp -dsimp -implicitDefEqProofs only [↓rds13, ↓rds14, ↓rds1, ↓rds2, ↓rds3, ↓rds4, ↓rds5, ↓rds6, ↓rds7, ↓rds8, ↓rds9, ↓rds10, ↓rds11, ↓rds12, List.set_cons_zero, List.set_cons_succ, ne_eq, not_false_eq_true, decide_eq_true_eq, Bool.or_true, Bool.or_false, Bool.true_or, Bool.false_or, Bool.and_true, Bool.true_and, Bool.and_false, Bool.false_and, Bool.not_true, Bool.not_false, reduceCtorEq, beq_self_eq_true, true_and, and_true, c_KINDS, e, if_true, Bool.false_eq_true]
  refine ⟨rfl, rfl, ?_⟩
  refine cl_i ⟨rfl, _, _, rfl, hk, hl, ?_⟩
  by_cases hw : w ∈ wsL kind
  · rw [decide_eq_true hw]
    try simp -dsimp -implicitDefEqProofs only [↓rds13, ↓rds14, ↓rds1, ↓rds2, ↓rds3, ↓rds4, ↓rds5, ↓rds6, ↓rds7, ↓rds8, ↓rds9, ↓rds10, ↓rds11, ↓rds12, List.set_cons_zero, List.set_cons_succ, ne_eq, not_false_eq_true, decide_eq_true_eq, Bool.or_true, Bool.or_false, Bool.true_or, Bool.false_or, Bool.and_true, Bool.true_and, Bool.and_false, Bool.false_and, Bool.not_true, Bool.not_false, reduceCtorEq, beq_self_eq_true, true_and, and_true, if_true, if_false, Bool.false_eq_true]
    exact finN (q hw)
  · rw [decide_eq_false hw]
    try simp -dsimp -implicitDefEqProofs only [↓rds13, ↓rds14, ↓rds1, ↓rds2, ↓rds3, ↓rds4, ↓rds5, ↓rds6, ↓rds7, ↓rds8, ↓rds9, ↓rds10, ↓rds11, ↓rds12, List.set_cons_zero, List.set_cons_succ, ne_eq, not_false_eq_true, decide_eq_true_eq, Bool.or_true, Bool.or_false, Bool.true_or, Bool.false_or, Bool.and_true, Bool.true_and, Bool.and_false, Bool.false_and, Bool.not_true, Bool.not_false, reduceCtorEq, beq_self_eq_true, true_and, and_true, if_true, if_false, Bool.false_eq_true]
    exact ex hw
/-! ### samples -/
def lkI (l : List (Str × (Int × Int))) (z : Str) : Int × Int := match l with
  | [] => (0, 0)
  | (k, d) :: r => if z = k then d else lkI r z
/-- the second arc of a sample -/
def samp (w : Str) : Int × Int := lkI [("bi", (0, 1)), ("be", (0, 3)), ("bo", (0, 4)), ("ib", (1, 0)), ("ii", (1, 2)), ("II", (2, 1)), ("ie", (1, 3)), ("io", (1, 4)), ("eb", (3, 0)), ("ei", (3, 1)), ("eo", (3, 4)), ("ob", (4, 0)), ("oi", (4, 1)), ("oe", (4, 3)), ("oo", (4, 5)), ("OO", (5, 4))] w
def sp_ring_sample : SpD := fun ds h Q _ => ds.length = 1 ∧ ∃ w : Str, ds = [.v (.str w)] ∧ w ∈ rws ∧ Q (.t [.t [.v (.int 0), .v (.int 3)], .t [.v (.int (samp w).1), .v (.int (samp w).2)]]) h
def rd_ring_sample (E : ER) : SD :=
  dSeq (dAsg (dDispC [(.inr "b", .v (.int 0)), (.inr "i", .v (.int 1)), (.inr "e", .v (.int 3)), (.inr "o", .v (.int 4))]) (nG 1))
  (dSeq (dIfS (dTest (d2 pMem (dVar 0) (dTup (dCons (dC (.v (.str "ii"))) (dCons (dC (.v (.str "oo"))) (dNil)))))) (dRet (dTup (dCons (dTup (dCons (dC (.v (.int 0))) (dCons (dC (.v (.int 3))) (dNil)))) (dCons (dTup (dCons (d2 pIt (dVar 1) (d2 pIt (dVar 0) (dC (.v (.int 0))))) (dCons (d2 pAdd (d2 pIt (dVar 1) (d2 pIt (dVar 0) (dC (.v (.int 0))))) (dC (.v (.int 1)))) (dNil)))) (dNil))))) (dNext))
  (dSeq (dIfS (dTest (d2 pMem (dVar 0) (dTup (dCons (dC (.v (.str "II"))) (dCons (dC (.v (.str "OO"))) (dNil)))))) (dSeq (dAsg (d2 pIt (dDispC [(.inr "II", .v (.int 1)), (.inr "OO", .v (.int 4))]) (dVar 0)) (nG 2))
  (dRet (dTup (dCons (dTup (dCons (dC (.v (.int 0))) (dCons (dC (.v (.int 3))) (dNil)))) (dCons (dTup (dCons (d2 pAdd (dVar 2) (dC (.v (.int 1)))) (dCons (dVar 2) (dNil)))) (dNil)))))) (dNext))
  (dRet (dTup (dCons (dTup (dCons (dC (.v (.int 0))) (dCons (dC (.v (.int 3))) (dNil)))) (dCons (dTup (dCons (d2 pIt (dVar 1) (d2 pIt (dVar 0) (dC (.v (.int 0))))) (dCons (d2 pIt (dVar 1) (d2 pIt (dVar 0) (dC (.v (.int 1))))) (dNil)))) (dNil)))))))
abbrev N_ring_sample : List Str := ["way", "places", "low"]
theorem samp_facts : ∀ w ∈ rws, (inL (.v (.str w)) [.v (.str "ii"), .v (.str "oo")] = true ∧ w.length ≤ 2 ∧ ∃ c n, atI w.cps.toList 0 = some c ∧ valD (mergeD [] [(.inr "b", .v (.int 0)), (.inr "i", .v (.int 1)), (.inr "e", .v (.int 3)), (.inr "o", .v (.int 4))]) (.inr (⟨#[c]⟩ : Str)) = some (.v (.int n)) ∧ samp w = (n, n + 1)) ∨
    (inL (.v (.str w)) [.v (.str "ii"), .v (.str "oo")] = false ∧ inL (.v (.str w)) [.v (.str "II"), .v (.str "OO")] = true ∧ ∃ n, valD (mergeD [] [(.inr "II", .v (.int 1)), (.inr "OO", .v (.int 4))]) (.inr w) = some (.v (.int n)) ∧ samp w = (n + 1, n)) ∨
    (inL (.v (.str w)) [.v (.str "ii"), .v (.str "oo")] = false ∧ inL (.v (.str w)) [.v (.str "II"), .v (.str "OO")] = false ∧ w.length ≤ 2 ∧ ∃ c e n m, atI w.cps.toList 0 = some c ∧ atI w.cps.toList 1 = some e ∧ valD (mergeD [] [(.inr "b", .v (.int 0)), (.inr "i", .v (.int 1)), (.inr "e", .v (.int 3)), (.inr "o", .v (.int 4))]) (.inr (⟨#[c]⟩ : Str)) = some (.v (.int n)) ∧ valD (mergeD [] [(.inr "b", .v (.int 0)), (.inr "i", .v (.int 1)), (.inr "e", .v (.int 3)), (.inr "o", .v (.int 4))]) (.inr (⟨#[e]⟩ : Str)) = some (.v (.int m)) ∧ samp w = (n, m)) := by
  intro w hw
  have hw : w = "bi" ∨ w = "be" ∨ w = "bo" ∨ w = "ib" ∨ w = "ii" ∨ w = "II" ∨ w = "ie" ∨ w = "io" ∨ w = "eb" ∨ w = "ei" ∨ w = "eo" ∨ w = "ob" ∨ w = "oi" ∨ w = "oe" ∨ w = "oo" ∨ w = "OO" := by simpa [rws] using hw
  rcases hw with rfl | rfl | rfl | rfl | rfl | rfl | rfl | rfl | rfl | rfl | rfl | rfl | rfl | rfl | rfl | rfl
  · exact .inr (.inr ⟨by decide, by decide, by decide, 98, 105, 0, 1, by decide, by decide, by decide, by decide, by decide⟩)
  · exact .inr (.inr ⟨by decide, by decide, by decide, 98, 101, 0, 3, by decide, by decide, by decide, by decide, by decide⟩)
  · exact .inr (.inr ⟨by decide, by decide, by decide, 98, 111, 0, 4, by decide, by decide, by decide, by decide, by decide⟩)
  · exact .inr (.inr ⟨by decide, by decide, by decide, 105, 98, 1, 0, by decide, by decide, by decide, by decide, by decide⟩)
  · exact .inl ⟨by decide, by decide, 105, 1, by decide, by decide, by decide⟩
  · exact .inr (.inl ⟨by decide, by decide, 1, by decide, by decide⟩)
  · exact .inr (.inr ⟨by decide, by decide, by decide, 105, 101, 1, 3, by decide, by decide, by decide, by decide, by decide⟩)
  · exact .inr (.inr ⟨by decide, by decide, by decide, 105, 111, 1, 4, by decide, by decide, by decide, by decide, by decide⟩)
  · exact .inr (.inr ⟨by decide, by decide, by decide, 101, 98, 3, 0, by decide, by decide, by decide, by decide, by decide⟩)
  · exact .inr (.inr ⟨by decide, by decide, by decide, 101, 105, 3, 1, by decide, by decide, by decide, by decide, by decide⟩)
  · exact .inr (.inr ⟨by decide, by decide, by decide, 101, 111, 3, 4, by decide, by decide, by decide, by decide, by decide⟩)
  · exact .inr (.inr ⟨by decide, by decide, by decide, 111, 98, 4, 0, by decide, by decide, by decide, by decide, by decide⟩)
  · exact .inr (.inr ⟨by decide, by decide, by decide, 111, 105, 4, 1, by decide, by decide, by decide, by decide, by decide⟩)
  · exact .inr (.inr ⟨by decide, by decide, by decide, 111, 101, 4, 3, by decide, by decide, by decide, by decide, by decide⟩)
  · exact .inl ⟨by decide, by decide, 111, 4, by decide, by decide, by decide⟩
  · exact .inr (.inl ⟨by decide, by decide, 4, by decide, by decide⟩)
theorem ok_ring_sample : ∀ ds h Q E, sp_ring_sample ds h Q E → rd_ring_sample (fun x _ h' => E x h') (fin Q) (startD N_ring_sample ds) h := by
  rintro ds h Q E ⟨_, w, rfl, hw, ret⟩
  show rd_ring_sample _ _ [some (.v (.str w)), none, none] h
  unfold rd_ring_sample
  try simp -dsimp -implicitDefEqProofs only [↓rds13, ↓rds14, ↓rds1, ↓rds2, ↓rds3, ↓rds4, ↓rds5, ↓rds6, ↓rds7, ↓rds8, ↓rds9, ↓rds10, ↓rds11, ↓rds12, List.set_cons_zero, List.set_cons_succ, ne_eq, not_false_eq_true, decide_eq_true_eq, Bool.or_true, Bool.or_false, Bool.true_or, Bool.false_or, Bool.and_true, Bool.true_and, Bool.and_false, Bool.false_and, Bool.not_true, Bool.not_false, reduceCtorEq, beq_self_eq_true, true_and, and_true]
  refine al_i fun p hp => ?_
  have l2 : (2 : Nat) ≤ sizeLine := by decide
  rcases samp_facts w hw with ⟨f1, f2, c, n, f3, f4, f5⟩ | ⟨f1, f2, n, f3, f4⟩ | ⟨f1, f2, f3, c, e, n, m, f4, f5, f6, f7, f8⟩
  · rw [f5] at ret
    try simp -dsimp -implicitDefEqProofs only [↓rds13, ↓rds14, ↓rds1, ↓rds2, ↓rds3, ↓rds4, ↓rds5, ↓rds6, ↓rds7, ↓rds8, ↓rds9, ↓rds10, ↓rds11, ↓rds12, List.set_cons_zero, List.set_cons_succ, ne_eq, not_false_eq_true, decide_eq_true_eq, Bool.or_true, Bool.or_false, Bool.true_or, Bool.false_or, Bool.and_true, Bool.true_and, Bool.and_false, Bool.false_and, Bool.not_true, Bool.not_false, reduceCtorEq, beq_self_eq_true, true_and, and_true, f1, if_false]
    refine ⟨rfl, rfl, ?_⟩
    try simp -dsimp -implicitDefEqProofs only [↓rds13, ↓rds14, ↓rds1, ↓rds2, ↓rds3, ↓rds4, ↓rds5, ↓rds6, ↓rds7, ↓rds8, ↓rds9, ↓rds10, ↓rds11, ↓rds12, List.set_cons_zero, List.set_cons_succ, ne_eq, not_false_eq_true, decide_eq_true_eq, Bool.or_true, Bool.or_false, Bool.true_or, Bool.false_or, Bool.and_true, Bool.true_and, Bool.and_false, Bool.false_and, Bool.not_true, Bool.not_false, reduceCtorEq, beq_self_eq_true, true_and, and_true, f3, f4]
    exact ⟨Nat.le_trans f2 l2, Nat.le_trans f2 l2, finI (Sub.put hp) ret⟩
  · rw [f4] at ret
    try simp -dsimp -implicitDefEqProofs only [↓rds13, ↓rds14, ↓rds1, ↓rds2, ↓rds3, ↓rds4, ↓rds5, ↓rds6, ↓rds7, ↓rds8, ↓rds9, ↓rds10, ↓rds11, ↓rds12, List.set_cons_zero, List.set_cons_succ, ne_eq, not_false_eq_true, decide_eq_true_eq, Bool.or_true, Bool.or_false, Bool.true_or, Bool.false_or, Bool.and_true, Bool.true_and, Bool.and_false, Bool.false_and, Bool.not_true, Bool.not_false, reduceCtorEq, beq_self_eq_true, true_and, and_true, f1, f2, if_false, Bool.false_eq_true]
    refine ⟨rfl, rfl, rfl, rfl, ?_⟩
    try simp -dsimp -implicitDefEqProofs only [↓rds13, ↓rds14, ↓rds1, ↓rds2, ↓rds3, ↓rds4, ↓rds5, ↓rds6, ↓rds7, ↓rds8, ↓rds9, ↓rds10, ↓rds11, ↓rds12, List.set_cons_zero, List.set_cons_succ, ne_eq, not_false_eq_true, decide_eq_true_eq, Bool.or_true, Bool.or_false, Bool.true_or, Bool.false_or, Bool.and_true, Bool.true_and, Bool.and_false, Bool.false_and, Bool.not_true, Bool.not_false, reduceCtorEq, beq_self_eq_true, true_and, and_true]
    refine al_i fun p' hp' => ?_
    try simp -dsimp -implicitDefEqProofs only [↓rds13, ↓rds14, ↓rds1, ↓rds2, ↓rds3, ↓rds4, ↓rds5, ↓rds6, ↓rds7, ↓rds8, ↓rds9, ↓rds10, ↓rds11, ↓rds12, List.set_cons_zero, List.set_cons_succ, ne_eq, not_false_eq_true, decide_eq_true_eq, Bool.or_true, Bool.or_false, Bool.true_or, Bool.false_or, Bool.and_true, Bool.true_and, Bool.and_false, Bool.false_and, Bool.not_true, Bool.not_false, reduceCtorEq, beq_self_eq_true, true_and, and_true, f3]
    exact finI ((Sub.put hp).trans (Sub.put hp')) ret
  · rw [f8] at ret
    try simp -dsimp -implicitDefEqProofs only [↓rds13, ↓rds14, ↓rds1, ↓rds2, ↓rds3, ↓rds4, ↓rds5, ↓rds6, ↓rds7, ↓rds8, ↓rds9, ↓rds10, ↓rds11, ↓rds12, List.set_cons_zero, List.set_cons_succ, ne_eq, not_false_eq_true, decide_eq_true_eq, Bool.or_true, Bool.or_false, Bool.true_or, Bool.false_or, Bool.and_true, Bool.true_and, Bool.and_false, Bool.false_and, Bool.not_true, Bool.not_false, reduceCtorEq, beq_self_eq_true, true_and, and_true, f1, f2, if_false, Bool.false_eq_true]
    refine ⟨rfl, rfl, rfl, rfl, ?_⟩
    try simp -dsimp -implicitDefEqProofs only [↓rds13, ↓rds14, ↓rds1, ↓rds2, ↓rds3, ↓rds4, ↓rds5, ↓rds6, ↓rds7, ↓rds8, ↓rds9, ↓rds10, ↓rds11, ↓rds12, List.set_cons_zero, List.set_cons_succ, ne_eq, not_false_eq_true, decide_eq_true_eq, Bool.or_true, Bool.or_false, Bool.true_or, Bool.false_or, Bool.and_true, Bool.true_and, Bool.and_false, Bool.false_and, Bool.not_true, Bool.not_false, reduceCtorEq, beq_self_eq_true, true_and, and_true, f4, f5, f6, f7]
    exact ⟨Nat.le_trans f3 l2, Nat.le_trans f3 l2, finI (Sub.put hp) ret⟩
/-! ### told back, mirrored -/
def getS (kvs : List (Str × D)) (z : Str) : Str := match lkS kvs z with
  | some (.v (.str y)) => y
  | _ => ""
def signs (w : Str) : List Str := w.cps.toList.map one
def overS (kvs : List (Str × D)) (w : Str) : Str := Txt.join "" ((signs w).map (getS kvs))
def bkF (kind w : Str) : Str := if kind = "ring" then cw (samp w).1 (samp w).2 0 3 else overS k_BACK w
def mrF (kind w : Str) : Str := if kind = "ring" then cw (-3) (-0) (-(samp w).2) (-(samp w).1) else overS k_MIRRORED w
theorem chars_signs (w : Str) : chars w = (signs w).map sD := by
  unfold chars signs
  rw [List.map_map]
  rfl
theorem signs_in : ∀ w ∈ lws ++ bws, (∀ z ∈ signs w, z ∈ lws) ∧ (signs w).length ≤ 2 := by decide +kernel
theorem get_back : ∀ z ∈ lws, lkS k_BACK z = some (sD (getS k_BACK z)) ∧ getS k_BACK z ∈ lws := by decide +kernel
theorem get_mirrored : ∀ z ∈ lws, lkS k_MIRRORED z = some (sD (getS k_MIRRORED z)) ∧ getS k_MIRRORED z ∈ lws := by decide +kernel
theorem sum_ones {l : List Str} (h : ∀ z ∈ l, z.length = 1) : (l.map Str.length).sum = l.length := by
  induction l with
  | nil => rfl
  | cons a r ih =>
    rw [List.map_cons, List.sum_cons, ih fun z hz => h z (List.mem_cons_of_mem _ hz), h a List.mem_cons_self, List.length_cons]
    omega
theorem not_ring {kind w : Str} (hk : kind ∈ kds) (hr : ¬ kind = "ring") (hw : w ∈ wsL kind) : w ∈ lws ++ bws := by
  rcases kds_or hk with rfl | rfl | rfl
  · exact List.mem_append_left _ hw
  · exact absurd rfl hr
  · exact List.mem_append_right _ hw
def sp_back : SpD := fun ds h Q E => ds.length = 2 ∧ ∃ kind w : Str, ds = [.v (.str kind), .v (.str w)] ∧ kind ∈ kds ∧ w.length ≤ 1000 ∧ (w ∈ wsL kind → Q (.v (.str (bkF kind w))) h) ∧ (w ∉ wsL kind → E ⟨"BadWay", [("way", .v (.str w))]⟩ h)
def rd_back (E : ER) : SD :=
  dSeq (dDrop (dCall sp_check_way E (dCons (dVar 0) (dCons (dVar 1) (dNil)))))
  (dSeq (dIfS (dTest (d2 pEqA (dVar 0) (dC (.v (.str "ring"))))) (dSeq (dAsg (dCall sp_ring_sample E (dCons (dVar 1) (dNil))) (tupG 2 (consG (nG 2) (consG (nG 3) (nilG)))))
  (dRet (dCall sp_ring_way E (dCons (dVar 3) (dCons (dVar 2) (dNil)))))) (dNext))
  (dRet (dBM "str" mJoin (dC (.v (.str ""))) (dCons (dLc (iAnyD (dVar 1)) (nG 4) (dYes) (dKd k_BACK (dVar 4)) [4]) (dNil)))))
abbrev N_back : List Str := ["kind", "way", "first", "second", "one"]
theorem ok_back : ∀ ds h Q E, sp_back ds h Q E → rd_back (fun x _ h' => E x h') (fin Q) (startD N_back ds) h := by
  rintro ds h Q E ⟨_, kind, w, rfl, hk, hl, q, ex⟩
  show rd_back _ _ [some (.v (.str kind)), some (.v (.str w)), none, none, none] h
  unfold rd_back
  try simp -dsimp -implicitDefEqProofs only [↓rds13, ↓rds14, ↓rds1, ↓rds2, ↓rds3, ↓rds4, ↓rds5, ↓rds6, ↓rds7, ↓rds8, ↓rds9, ↓rds10, ↓rds11, ↓rds12, List.set_cons_zero, List.set_cons_succ, ne_eq, not_false_eq_true, decide_eq_true_eq, Bool.or_true, Bool.or_false, Bool.true_or, Bool.false_or, Bool.and_true, Bool.true_and, Bool.and_false, Bool.false_and, Bool.not_true, Bool.not_false, reduceCtorEq, beq_self_eq_true, true_and, and_true]
  refine cl_i ⟨rfl, _, _, rfl, hk, hl, fun hw => ?_, ex⟩
  have q := q hw
  by_cases hr : kind = "ring"
  · subst hr
    rw [ws_ring] at hw
    try simp -dsimp -implicitDefEqProofs only [↓rds13, ↓rds14, ↓rds1, ↓rds2, ↓rds3, ↓rds4, ↓rds5, ↓rds6, ↓rds7, ↓rds8, ↓rds9, ↓rds10, ↓rds11, ↓rds12, List.set_cons_zero, List.set_cons_succ, ne_eq, not_false_eq_true, decide_eq_true_eq, Bool.or_true, Bool.or_false, Bool.true_or, Bool.false_or, Bool.and_true, Bool.true_and, Bool.and_false, Bool.false_and, Bool.not_true, Bool.not_false, reduceCtorEq, beq_self_eq_true, true_and, and_true]
    refine cl_i ⟨rfl, _, rfl, hw, ?_⟩
    try simp -dsimp -implicitDefEqProofs only [↓rds13, ↓rds14, ↓rds1, ↓rds2, ↓rds3, ↓rds4, ↓rds5, ↓rds6, ↓rds7, ↓rds8, ↓rds9, ↓rds10, ↓rds11, ↓rds12, List.set_cons_zero, List.set_cons_succ, ne_eq, not_false_eq_true, decide_eq_true_eq, Bool.or_true, Bool.or_false, Bool.true_or, Bool.false_or, Bool.and_true, Bool.true_and, Bool.and_false, Bool.false_and, Bool.not_true, Bool.not_false, reduceCtorEq, beq_self_eq_true, true_and, and_true]
    refine cl_i ⟨rfl, _, _, _, _, rfl, ?_⟩
    unfold bkF at q
    rw [if_pos rfl] at q
    exact finR q
  · unfold bkF at q
    rw [if_neg hr] at q
    obtain ⟨f1, f2⟩ := signs_in w (not_ring hk hr hw)
    try simp -dsimp -implicitDefEqProofs only [↓rds13, ↓rds14, ↓rds1, ↓rds2, ↓rds3, ↓rds4, ↓rds5, ↓rds6, ↓rds7, ↓rds8, ↓rds9, ↓rds10, ↓rds11, ↓rds12, List.set_cons_zero, List.set_cons_succ, ne_eq, not_false_eq_true, decide_eq_true_eq, Bool.or_true, Bool.or_false, Bool.true_or, Bool.false_or, Bool.and_true, Bool.true_and, Bool.and_false, Bool.false_and, Bool.not_true, Bool.not_false, reduceCtorEq, beq_self_eq_true, true_and, and_true, hr, chars_signs]
    refine cmp_map (onS (getS k_BACK)) trivial (by rw [List.length_map]; omega) ?_ ?_
    · intro x hx S N hS
      obtain ⟨z, hz, rfl⟩ := List.mem_map.mp hx
      have e := (get_back z (f1 z hz)).1
      try simp -dsimp -implicitDefEqProofs only [↓rds13, ↓rds14, ↓rds1, ↓rds2, ↓rds3, ↓rds4, ↓rds5, ↓rds6, ↓rds7, ↓rds8, ↓rds9, ↓rds10, ↓rds11, ↓rds12, List.set_cons_zero, List.set_cons_succ, ne_eq, not_false_eq_true, decide_eq_true_eq, Bool.or_true, Bool.or_false, Bool.true_or, Bool.false_or, Bool.and_true, Bool.true_and, Bool.and_false, Bool.false_and, Bool.not_true, Bool.not_false, reduceCtorEq, beq_self_eq_true, true_and, and_true, sD, e]
      exact hS
    intro p hp
    have l1 : (((signs w).map (getS k_BACK)).map Str.length).sum = (signs w).length := by
      rw [sum_ones, List.length_map]
      intro y hy
      obtain ⟨z, hz, rfl⟩ := List.mem_map.mp hy
      exact lws_len _ (get_back z (f1 z hz)).2
    rw [onS_sD]
    have e := strsD_map ((signs w).map (getS k_BACK))
    have e : strsD (((signs w).map (getS k_BACK)).map sD) = some ((signs w).map (getS k_BACK)) := e
    try simp -dsimp -implicitDefEqProofs only [↓rds13, ↓rds14, ↓rds1, ↓rds2, ↓rds3, ↓rds4, ↓rds5, ↓rds6, ↓rds7, ↓rds8, ↓rds9, ↓rds10, ↓rds11, ↓rds12, List.set_cons_zero, List.set_cons_succ, ne_eq, not_false_eq_true, decide_eq_true_eq, Bool.or_true, Bool.or_false, Bool.true_or, Bool.false_or, Bool.and_true, Bool.true_and, Bool.and_false, Bool.false_and, Bool.not_true, Bool.not_false, reduceCtorEq, beq_self_eq_true, true_and, and_true, e]
    refine ⟨?_, finI (Sub.put hp) q⟩
    rw [l1]
    show (signs w).length + ((signs w).map (getS k_BACK)).length * 0 ≤ 16777216
    omega
def sp_mirrored : SpD := fun ds h Q E => ds.length = 2 ∧ ∃ kind w : Str, ds = [.v (.str kind), .v (.str w)] ∧ kind ∈ kds ∧ w.length ≤ 1000 ∧ (w ∈ wsL kind → Q (.v (.str (mrF kind w))) h) ∧ (w ∉ wsL kind → E ⟨"BadWay", [("way", .v (.str w))]⟩ h)
def rd_mirrored (E : ER) : SD :=
  dSeq (dDrop (dCall sp_check_way E (dCons (dVar 0) (dCons (dVar 1) (dNil)))))
  (dSeq (dIfS (dTest (d2 pEqA (dVar 0) (dC (.v (.str "ring"))))) (dSeq (dAsg (dCall sp_ring_sample E (dCons (dVar 1) (dNil))) (tupG 2 (consG (nG 2) (consG (nG 3) (nilG)))))
  (dRet (dCall sp_ring_way E (dCons (dTup (dCons (d1 pNeg (d2 pIt (dVar 2) (dC (.v (.int 1))))) (dCons (d1 pNeg (d2 pIt (dVar 2) (dC (.v (.int 0))))) (dNil)))) (dCons (dTup (dCons (d1 pNeg (d2 pIt (dVar 3) (dC (.v (.int 1))))) (dCons (d1 pNeg (d2 pIt (dVar 3) (dC (.v (.int 0))))) (dNil)))) (dNil)))))) (dNext))
  (dRet (dBM "str" mJoin (dC (.v (.str ""))) (dCons (dLc (iAnyD (dVar 1)) (nG 4) (dYes) (dKd k_MIRRORED (dVar 4)) [4]) (dNil)))))
abbrev N_mirrored : List Str := ["kind", "way", "first", "second", "one"]
theorem ok_mirrored : ∀ ds h Q E, sp_mirrored ds h Q E → rd_mirrored (fun x _ h' => E x h') (fin Q) (startD N_mirrored ds) h := by
  rintro ds h Q E ⟨_, kind, w, rfl, hk, hl, q, ex⟩
  show rd_mirrored _ _ [some (.v (.str kind)), some (.v (.str w)), none, none, none] h
  unfold rd_mirrored
  try simp -dsimp -implicitDefEqProofs only [↓rds13, ↓rds14, ↓rds1, ↓rds2, ↓rds3, ↓rds4, ↓rds5, ↓rds6, ↓rds7, ↓rds8, ↓rds9, ↓rds10, ↓rds11, ↓rds12, List.set_cons_zero, List.set_cons_succ, ne_eq, not_false_eq_true, decide_eq_true_eq, Bool.or_true, Bool.or_false, Bool.true_or, Bool.false_or, Bool.and_true, Bool.true_and, Bool.and_false, Bool.false_and, Bool.not_true, Bool.not_false, reduceCtorEq, beq_self_eq_true, true_and, and_true]
  refine cl_i ⟨rfl, _, _, rfl, hk, hl, fun hw => ?_, ex⟩
  have q := q hw
  by_cases hr : kind = "ring"
  · subst hr
    rw [ws_ring] at hw
    try simp -dsimp -implicitDefEqProofs only [↓rds13, ↓rds14, ↓rds1, ↓rds2, ↓rds3, ↓rds4, ↓rds5, ↓rds6, ↓rds7, ↓rds8, ↓rds9, ↓rds10, ↓rds11, ↓rds12, List.set_cons_zero, List.set_cons_succ, ne_eq, not_false_eq_true, decide_eq_true_eq, Bool.or_true, Bool.or_false, Bool.true_or, Bool.false_or, Bool.and_true, Bool.true_and, Bool.and_false, Bool.false_and, Bool.not_true, Bool.not_false, reduceCtorEq, beq_self_eq_true, true_and, and_true]
    refine cl_i ⟨rfl, _, rfl, hw, ?_⟩
    try simp -dsimp -implicitDefEqProofs only [↓rds13, ↓rds14, ↓rds1, ↓rds2, ↓rds3, ↓rds4, ↓rds5, ↓rds6, ↓rds7, ↓rds8, ↓rds9, ↓rds10, ↓rds11, ↓rds12, List.set_cons_zero, List.set_cons_succ, ne_eq, not_false_eq_true, decide_eq_true_eq, Bool.or_true, Bool.or_false, Bool.true_or, Bool.false_or, Bool.and_true, Bool.true_and, Bool.and_false, Bool.false_and, Bool.not_true, Bool.not_false, reduceCtorEq, beq_self_eq_true, true_and, and_true]
    refine cl_i ⟨rfl, _, _, _, _, rfl, ?_⟩
    unfold mrF at q
    rw [if_pos rfl] at q
    exact finR q
  · unfold mrF at q
    rw [if_neg hr] at q
    obtain ⟨f1, f2⟩ := signs_in w (not_ring hk hr hw)
    try simp -dsimp -implicitDefEqProofs only [↓rds13, ↓rds14, ↓rds1, ↓rds2, ↓rds3, ↓rds4, ↓rds5, ↓rds6, ↓rds7, ↓rds8, ↓rds9, ↓rds10, ↓rds11, ↓rds12, List.set_cons_zero, List.set_cons_succ, ne_eq, not_false_eq_true, decide_eq_true_eq, Bool.or_true, Bool.or_false, Bool.true_or, Bool.false_or, Bool.and_true, Bool.true_and, Bool.and_false, Bool.false_and, Bool.not_true, Bool.not_false, reduceCtorEq, beq_self_eq_true, true_and, and_true, hr, chars_signs]
    refine cmp_map (onS (getS k_MIRRORED)) trivial (by rw [List.length_map]; omega) ?_ ?_
    · intro x hx S N hS
      obtain ⟨z, hz, rfl⟩ := List.mem_map.mp hx
      have e := (get_mirrored z (f1 z hz)).1
      try simp -dsimp -implicitDefEqProofs only [↓rds13, ↓rds14, ↓rds1, ↓rds2, ↓rds3, ↓rds4, ↓rds5, ↓rds6, ↓rds7, ↓rds8, ↓rds9, ↓rds10, ↓rds11, ↓rds12, List.set_cons_zero, List.set_cons_succ, ne_eq, not_false_eq_true, decide_eq_true_eq, Bool.or_true, Bool.or_false, Bool.true_or, Bool.false_or, Bool.and_true, Bool.true_and, Bool.and_false, Bool.false_and, Bool.not_true, Bool.not_false, reduceCtorEq, beq_self_eq_true, true_and, and_true, sD, e]
      exact hS
    intro p hp
    have l1 : (((signs w).map (getS k_MIRRORED)).map Str.length).sum = (signs w).length := by
      rw [sum_ones, List.length_map]
      intro y hy
      obtain ⟨z, hz, rfl⟩ := List.mem_map.mp hy
      exact lws_len _ (get_mirrored z (f1 z hz)).2
    rw [onS_sD]
    have e := strsD_map ((signs w).map (getS k_MIRRORED))
    have e : strsD (((signs w).map (getS k_MIRRORED)).map sD) = some ((signs w).map (getS k_MIRRORED)) := e
    try simp -dsimp -implicitDefEqProofs only [↓rds13, ↓rds14, ↓rds1, ↓rds2, ↓rds3, ↓rds4, ↓rds5, ↓rds6, ↓rds7, ↓rds8, ↓rds9, ↓rds10, ↓rds11, ↓rds12, List.set_cons_zero, List.set_cons_succ, ne_eq, not_false_eq_true, decide_eq_true_eq, Bool.or_true, Bool.or_false, Bool.true_or, Bool.false_or, Bool.and_true, Bool.true_and, Bool.and_false, Bool.false_and, Bool.not_true, Bool.not_false, reduceCtorEq, beq_self_eq_true, true_and, and_true, e]
    refine ⟨?_, finI (Sub.put hp) q⟩
    rw [l1]
    show (signs w).length + ((signs w).map (getS k_MIRRORED)).length * 0 ≤ 16777216
    omega
/-! ### the law's own ways -/
theorem split_rws : (Txt.split "bi be bo ib ii II ie io eb ei eo ob oi oe oo OO" " ").map (fun z => D.v (.str z)) = rws.map sD := by decide +kernel
theorem tk_len : ∀ i < 13, ((lws.take i).flatMap fun a => lws.map fun b => a ++ b).length ≤ 200 := by decide +kernel
def sp_law_ways : SpD := fun ds h Q _ => ds.length = 1 ∧ ∃ kind : Str, ds = [.v (.str kind)] ∧ kind ∈ kds ∧ ∀ p, h p = none → Q (.v (.ref p)) (put h p (.lst ((wsL kind).map sD)))
def rd_law_ways (E : ER) : SD :=
  dSeq (dAsg (dCB cList (dCons (dC (.v (.str "amoEWBsbweOMA"))) (dNil))) (nG 1))
  (dSeq (dIfS (dTest (d2 pEqA (dVar 0) (dC (.v (.str "line"))))) (dRet (dVar 1)) (dNext))
  (dSeq (dIfS (dTest (d2 pEqA (dVar 0) (dC (.v (.str "ring"))))) (dRet (dBM "str" mSplit (dC (.v (.str "bi be bo ib ii II ie io eb ei eo ob oi oe oo OO"))) (dCons (dC (.v (.str " "))) (dNil)))) (dNext))
  (dSeq (dAsg (dLst (dNil)) (nG 2))
  (dSeq (dFor (iAnyD (dVar 1)) (nG 3) (dAsg (d2 pAdd (dVar 2) (dLc (iAnyD (dVar 1)) (nG 4) (dYes) (d2 pAdd (dVar 3) (dVar 4)) [4])) (nG 2)))
  (dRet (dVar 2))))))
abbrev N_law_ways : List Str := ["kind", "line", "found", "one", "other"]
theorem ok_law_ways : ∀ ds h Q E, sp_law_ways ds h Q E → rd_law_ways (fun x _ h' => E x h') (fin Q) (startD N_law_ways ds) h := by
  rintro ds h Q E ⟨_, kind, rfl, hk, q⟩
  show rd_law_ways _ _ [some (.v (.str kind)), none, none, none, none] h
  unfold rd_law_ways
  try simp -dsimp -implicitDefEqProofs only [↓rds13, ↓rds14, ↓rds1, ↓rds2, ↓rds3, ↓rds4, ↓rds5, ↓rds6, ↓rds7, ↓rds8, ↓rds9, ↓rds10, ↓rds11, ↓rds12, List.set_cons_zero, List.set_cons_succ, ne_eq, not_false_eq_true, decide_eq_true_eq, Bool.or_true, Bool.or_false, Bool.true_or, Bool.false_or, Bool.and_true, Bool.true_and, Bool.and_false, Bool.false_and, Bool.not_true, Bool.not_false, reduceCtorEq, beq_self_eq_true, true_and, and_true, chars_LINE]
  refine ⟨by decide, al_i fun p hp => ?_⟩
  by_cases k1 : kind = "line"
  · subst k1
    try simp -dsimp -implicitDefEqProofs only [↓rds13, ↓rds14, ↓rds1, ↓rds2, ↓rds3, ↓rds4, ↓rds5, ↓rds6, ↓rds7, ↓rds8, ↓rds9, ↓rds10, ↓rds11, ↓rds12, List.set_cons_zero, List.set_cons_succ, ne_eq, not_false_eq_true, decide_eq_true_eq, Bool.or_true, Bool.or_false, Bool.true_or, Bool.false_or, Bool.and_true, Bool.true_and, Bool.and_false, Bool.false_and, Bool.not_true, Bool.not_false, reduceCtorEq, beq_self_eq_true, true_and, and_true]
    exact finR (q p hp)
  by_cases k2 : kind = "ring"
  · subst k2
    try simp -dsimp -implicitDefEqProofs only [↓rds13, ↓rds14, ↓rds1, ↓rds2, ↓rds3, ↓rds4, ↓rds5, ↓rds6, ↓rds7, ↓rds8, ↓rds9, ↓rds10, ↓rds11, ↓rds12, List.set_cons_zero, List.set_cons_succ, ne_eq, not_false_eq_true, decide_eq_true_eq, Bool.or_true, Bool.or_false, Bool.true_or, Bool.false_or, Bool.and_true, Bool.true_and, Bool.and_false, Bool.false_and, Bool.not_true, Bool.not_false, reduceCtorEq, beq_self_eq_true, true_and, and_true, rl]
    refine ⟨by decide, by decide, al_i fun r hr => ?_⟩
    have nr := nf hr
    refine finI (hs := put h r (.lst (rws.map sD))) ?_ (q r (fo hr))
    have e : (Txt.split "bi be bo ib ii II ie io eb ei eo ob oi oe oo OO" " ").map (fun z => D.v (V.str z)) = rws.map sD := split_rws
    rw [e]
    exact sub_put ((Sub.put hp).trans (Sub.put hr)) put_same
  try simp -dsimp -implicitDefEqProofs only [↓rds13, ↓rds14, ↓rds1, ↓rds2, ↓rds3, ↓rds4, ↓rds5, ↓rds6, ↓rds7, ↓rds8, ↓rds9, ↓rds10, ↓rds11, ↓rds12, List.set_cons_zero, List.set_cons_succ, ne_eq, not_false_eq_true, decide_eq_true_eq, Bool.or_true, Bool.or_false, Bool.true_or, Bool.false_or, Bool.and_true, Bool.true_and, Bool.and_false, Bool.false_and, Bool.not_true, Bool.not_false, reduceCtorEq, beq_self_eq_true, true_and, and_true, k1, k2]
  refine al_i fun l hl => ?_
  try simp -dsimp -implicitDefEqProofs only [↓rds13, ↓rds14, ↓rds1, ↓rds2, ↓rds3, ↓rds4, ↓rds5, ↓rds6, ↓rds7, ↓rds8, ↓rds9, ↓rds10, ↓rds11, ↓rds12, List.set_cons_zero, List.set_cons_succ, ne_eq, not_false_eq_true, decide_eq_true_eq, Bool.or_true, Bool.or_false, Bool.true_or, Bool.false_or, Bool.and_true, Bool.true_and, Bool.and_false, Bool.false_and, Bool.not_true, Bool.not_false, reduceCtorEq, beq_self_eq_true, true_and, and_true]
  have npl := nf hl
  have hl0 := fo hl
  have ek : kind = "box" := by
    rcases kds_or hk with e | e | e
    · exact absurd e k1
    · exact absurd e k2
    · exact e
  have gp : put (put h p (.lst (chars "amoEWBsbweOMA"))) l (.lst []) p = some (.lst (lws.map sD)) := by rw [put_ne npl.symm, put_same, chars_LINE]
  try simp -dsimp -implicitDefEqProofs only [↓rds13, ↓rds14, ↓rds1, ↓rds2, ↓rds3, ↓rds4, ↓rds5, ↓rds6, ↓rds7, ↓rds8, ↓rds9, ↓rds10, ↓rds11, ↓rds12, List.set_cons_zero, List.set_cons_succ, ne_eq, not_false_eq_true, decide_eq_true_eq, Bool.or_true, Bool.or_false, Bool.true_or, Bool.false_or, Bool.and_true, Bool.true_and, Bool.and_false, Bool.false_and, Bool.not_true, Bool.not_false, reduceCtorEq, beq_self_eq_true, true_and, and_true, gp]
  have len13 : (lws.map sD).length = 13 := rfl
  refine loop_of (fun i σ h' => ∃ f x, σ = [some (.v (.str kind)), some (.v (.ref p)), some (.v (.ref f)), x, none] ∧ h f = none ∧ h' f = some (.lst (((lws.take i).flatMap fun a => lws.map fun b => a ++ b).map sD)) ∧ h' p = some (.lst (lws.map sD)) ∧ Sub h h') ⟨l, none, rfl, hl0, put_same, gp, (Sub.put hp).trans (Sub.put hl)⟩ (fun i σ h' _ ⟨_, _, _, _, _, g, _⟩ => rdL_l g) ?_ ?_
  · rintro i x σ h' hx ⟨f, x0, rfl, hf, gf, gp, sb⟩ N hN
    obtain ⟨z, hz, rfl⟩ : ∃ z, lws[i]? = some z ∧ x = sD z := by
      rw [List.getElem?_map] at hx
      cases e : lws[i]? with
      | none => rw [e] at hx; cases hx
      | some z => rw [e] at hx; cases hx; exact ⟨z, rfl, rfl⟩
    have zl := lws_len z (List.mem_of_getElem? hz)
    try simp -dsimp -implicitDefEqProofs only [↓rds13, ↓rds14, ↓rds1, ↓rds2, ↓rds3, ↓rds4, ↓rds5, ↓rds6, ↓rds7, ↓rds8, ↓rds9, ↓rds10, ↓rds11, ↓rds12, List.set_cons_zero, List.set_cons_succ, ne_eq, not_false_eq_true, decide_eq_true_eq, Bool.or_true, Bool.or_false, Bool.true_or, Bool.false_or, Bool.and_true, Bool.true_and, Bool.and_false, Bool.false_and, Bool.not_true, Bool.not_false, reduceCtorEq, beq_self_eq_true, true_and, and_true, sD, gp]
    refine cmp_map (onS fun b => z ++ b) (rdL_l gp) (by decide) ?_ ?_
    · intro y hy S N hS
      obtain ⟨v, hv, rfl⟩ := List.mem_map.mp hy
      try simp -dsimp -implicitDefEqProofs only [↓rds13, ↓rds14, ↓rds1, ↓rds2, ↓rds3, ↓rds4, ↓rds5, ↓rds6, ↓rds7, ↓rds8, ↓rds9, ↓rds10, ↓rds11, ↓rds12, List.set_cons_zero, List.set_cons_succ, ne_eq, not_false_eq_true, decide_eq_true_eq, Bool.or_true, Bool.or_false, Bool.true_or, Bool.false_or, Bool.and_true, Bool.true_and, Bool.and_false, Bool.false_and, Bool.not_true, Bool.not_false, reduceCtorEq, beq_self_eq_true, true_and, and_true, sD]
      refine ⟨?_, hS⟩
      rw [zl, lws_len v hv]
      decide
    intro c hc
    have ncf : f ≠ c := on gf hc
    have ncp : p ≠ c := on gp hc
    try simp -dsimp -implicitDefEqProofs only [↓rds13, ↓rds14, ↓rds1, ↓rds2, ↓rds3, ↓rds4, ↓rds5, ↓rds6, ↓rds7, ↓rds8, ↓rds9, ↓rds10, ↓rds11, ↓rds12, List.set_cons_zero, List.set_cons_succ, ne_eq, not_false_eq_true, decide_eq_true_eq, Bool.or_true, Bool.or_false, Bool.true_or, Bool.false_or, Bool.and_true, Bool.true_and, Bool.and_false, Bool.false_and, Bool.not_true, Bool.not_false, reduceCtorEq, beq_self_eq_true, true_and, and_true, gf, ncf]
    have hi : i < 13 := by
      rcases Nat.lt_or_ge i 13 with k | k
      · exact k
      · rw [List.getElem?_eq_none (show lws.length ≤ i from k)] at hz; cases hz
    refine ⟨?_, al_i fun r hr => hN _ _ ⟨r, _, rfl, sb.none (fo hr), ?_, ?_, sb.trans ((Sub.put hc).trans (Sub.put hr))⟩⟩
    · rw [List.length_map, List.length_map, List.length_map]
      have := tk_len i hi
      have : (List.flatMap (fun a => List.map (fun b => a ++ b) lws) (List.take i lws)).length + 13 ≤ 213 := by omega
      exact Nat.le_trans this (by decide)
    · rw [put_same, onS_sD, ← List.map_append, List.take_add_one, hz, List.flatMap_append]
      rfl
    · exact Sub.put hr _ _ (Sub.put hc _ _ gp)
  · rintro σ h' ⟨f, x0, rfl, hf, gf, gp, sb⟩
    try simp -dsimp -implicitDefEqProofs only [↓rds13, ↓rds14, ↓rds1, ↓rds2, ↓rds3, ↓rds4, ↓rds5, ↓rds6, ↓rds7, ↓rds8, ↓rds9, ↓rds10, ↓rds11, ↓rds12, List.set_cons_zero, List.set_cons_succ, ne_eq, not_false_eq_true, decide_eq_true_eq, Bool.or_true, Bool.or_false, Bool.true_or, Bool.false_or, Bool.and_true, Bool.true_and, Bool.and_false, Bool.false_and, Bool.not_true, Bool.not_false, reduceCtorEq, beq_self_eq_true, true_and, and_true]
    refine finI (hs := put h f (.lst ((wsL kind).map sD))) (sub_put sb ?_) (q f hf)
    rw [gf, ek]
    rfl
/-! ### the law's rows -/
def rowsK : List (Key × D) := [(.inr "bi", .t [.v (.int 2), .v (.int 0), .v (.int 1)]), (.inr "be", .t [.v (.int 1), .v (.int 0), .v (.int 1)]), (.inr "bo", .t [.v (.int 1), .v (.int 0), .v (.int 2)]), (.inr "ib", .t [.v (.int 2), .v (.int 1), .v (.int 0)]), (.inr "ii", .t [.v (.int 3), .v (.int 1), .v (.int 2)]), (.inr "II", .t [.v (.int 3), .v (.int 2), .v (.int 1)]), (.inr "ie", .t [.v (.int 2), .v (.int 1), .v (.int 2)]), (.inr "io", .t [.v (.int 2), .v (.int 1), .v (.int 3)]), (.inr "eb", .t [.v (.int 1), .v (.int 1), .v (.int 0)]), (.inr "ei", .t [.v (.int 2), .v (.int 2), .v (.int 1)]), (.inr "eo", .t [.v (.int 1), .v (.int 1), .v (.int 2)]), (.inr "ob", .t [.v (.int 1), .v (.int 2), .v (.int 0)]), (.inr "oi", .t [.v (.int 2), .v (.int 3), .v (.int 1)]), (.inr "oe", .t [.v (.int 1), .v (.int 2), .v (.int 1)]), (.inr "oo", .t [.v (.int 1), .v (.int 2), .v (.int 3)]), (.inr "OO", .t [.v (.int 1), .v (.int 3), .v (.int 2)])]
def rowN (w : Str) : Int × Int × Int := match valD rowsK (.inr w) with
  | some (.t [.v (.int a), .v (.int b), .v (.int c)]) => (a, b, c)
  | _ => (0, 0, 0)
def rowD (w : Str) : D := .t [.v (.int (rowN w).1), .v (.int (rowN w).2.1), .v (.int (rowN w).2.2)]
theorem row_facts : ∀ w ∈ rws, valD (mergeD [] rowsK) (.inr w) = some (rowD w) := by decide +kernel
def sp_law_ring_row : SpD := fun ds h Q _ => ds.length = 1 ∧ ∃ w : Str, ds = [.v (.str w)] ∧ w ∈ rws ∧ Q (rowD w) h
def rd_law_ring_row (E : ER) : SD :=
  dSeq (dAsg (dDispC [(.inr "bi", .t [.v (.int 2), .v (.int 0), .v (.int 1)]), (.inr "be", .t [.v (.int 1), .v (.int 0), .v (.int 1)]), (.inr "bo", .t [.v (.int 1), .v (.int 0), .v (.int 2)]), (.inr "ib", .t [.v (.int 2), .v (.int 1), .v (.int 0)]), (.inr "ii", .t [.v (.int 3), .v (.int 1), .v (.int 2)]), (.inr "II", .t [.v (.int 3), .v (.int 2), .v (.int 1)]), (.inr "ie", .t [.v (.int 2), .v (.int 1), .v (.int 2)]), (.inr "io", .t [.v (.int 2), .v (.int 1), .v (.int 3)]), (.inr "eb", .t [.v (.int 1), .v (.int 1), .v (.int 0)]), (.inr "ei", .t [.v (.int 2), .v (.int 2), .v (.int 1)]), (.inr "eo", .t [.v (.int 1), .v (.int 1), .v (.int 2)]), (.inr "ob", .t [.v (.int 1), .v (.int 2), .v (.int 0)]), (.inr "oi", .t [.v (.int 2), .v (.int 3), .v (.int 1)]), (.inr "oe", .t [.v (.int 1), .v (.int 2), .v (.int 1)]), (.inr "oo", .t [.v (.int 1), .v (.int 2), .v (.int 3)]), (.inr "OO", .t [.v (.int 1), .v (.int 3), .v (.int 2)])]) (nG 1))
  (dRet (d2 pIt (dVar 1) (dVar 0)))
abbrev N_law_ring_row : List Str := ["way", "rows"]
theorem ok_law_ring_row : ∀ ds h Q E, sp_law_ring_row ds h Q E → rd_law_ring_row (fun x _ h' => E x h') (fin Q) (startD N_law_ring_row ds) h := by
  rintro ds h Q E ⟨_, w, rfl, hw, q⟩
  show rd_law_ring_row _ _ [some (.v (.str w)), none] h
  unfold rd_law_ring_row
  try simp -dsimp -implicitDefEqProofs only [↓rds13, ↓rds14, ↓rds1, ↓rds2, ↓rds3, ↓rds4, ↓rds5, ↓rds6, ↓rds7, ↓rds8, ↓rds9, ↓rds10, ↓rds11, ↓rds12, List.set_cons_zero, List.set_cons_succ, ne_eq, not_false_eq_true, decide_eq_true_eq, Bool.or_true, Bool.or_false, Bool.true_or, Bool.false_or, Bool.and_true, Bool.true_and, Bool.and_false, Bool.false_and, Bool.not_true, Bool.not_false, reduceCtorEq, beq_self_eq_true, true_and, and_true]
  refine al_i fun p hp => ?_
  have e := row_facts w hw
  unfold rowsK at e
  try simp -dsimp -implicitDefEqProofs only [↓rds13, ↓rds14, ↓rds1, ↓rds2, ↓rds3, ↓rds4, ↓rds5, ↓rds6, ↓rds7, ↓rds8, ↓rds9, ↓rds10, ↓rds11, ↓rds12, List.set_cons_zero, List.set_cons_succ, ne_eq, not_false_eq_true, decide_eq_true_eq, Bool.or_true, Bool.or_false, Bool.true_or, Bool.false_or, Bool.and_true, Bool.true_and, Bool.and_false, Bool.false_and, Bool.not_true, Bool.not_false, reduceCtorEq, beq_self_eq_true, true_and, and_true, e]
  exact finI (Sub.put hp) q
theorem row_back : ∀ w ∈ rws, cw (rowN w).2.1 (rowN w).2.2 0 (rowN w).1 = bkF "ring" w ∧ cw (-(rowN w).1) 0 (-(rowN w).2.2) (-(rowN w).2.1) = mrF "ring" w := by decide +kernel
def ixB (i : Option Nat) (t : Str) (f : Int → Int) : Option Str := i.bind fun i => (atI t.cps.toList (f i)).map one
theorem ixB_ok {i : Option Nat} {t : Str} {f : Int → Int} {z : Str} (h : ixB i t f = some z) : ∃ i' c, i = some i' ∧ atI t.cps.toList (f i') = some c ∧ one c = z := by
  unfold ixB at h
  cases i with
  | none => cases h
  | some i =>
    cases e : atI t.cps.toList (f i) with
    | none => rw [Option.bind_some, e] at h; cases h
    | some c => rw [Option.bind_some, e] at h; cases h; exact ⟨i, c, rfl, e, rfl⟩
theorem ix_back0 : ∀ z ∈ lws, ixB (ixS "amoEWBsbweOMA" z) "amoEWBsbweOMA" (fun i => 12 - i) = some (getS k_BACK z) := by decide +kernel
theorem ix_mirrored0 : ∀ z ∈ lws, ixB (ixS "amoEWBsbweOMA" z) "AMOBWEsewboma" (fun i => i) = some (getS k_MIRRORED z) := by decide +kernel
theorem ix_back {z : Str} (h : z ∈ lws) : ∃ i' c, ixS "amoEWBsbweOMA" z = some i' ∧ atI ("amoEWBsbweOMA" : Str).cps.toList (12 - (i' : Int)) = some c ∧ one c = getS k_BACK z := ixB_ok (ix_back0 z h)
theorem ix_mirrored {z : Str} (h : z ∈ lws) : ∃ i' c, ixS "amoEWBsbweOMA" z = some i' ∧ atI ("AMOBWEsewboma" : Str).cps.toList (i' : Int) = some c ∧ one c = getS k_MIRRORED z := ixB_ok (ix_mirrored0 z h)
def sp_law_back : SpD := fun ds h Q _ => ds.length = 2 ∧ ∃ kind w : Str, ds = [.v (.str kind), .v (.str w)] ∧ kind ∈ kds ∧ w ∈ wsL kind ∧ Q (.v (.str (bkF kind w))) h
def rd_law_back (E : ER) : SD :=
  dSeq (dIfS (dTest (d2 pEqA (dVar 0) (dC (.v (.str "ring"))))) (dSeq (dAsg (dCall sp_law_ring_row E (dCons (dVar 1) (dNil))) (nG 3))
  (dRet (dCall sp_law_ring_way E (dCons (dTup (dCons (d2 pIt (dVar 3) (dC (.v (.int 1)))) (dCons (d2 pIt (dVar 3) (dC (.v (.int 2)))) (dNil)))) (dCons (dTup (dCons (dC (.v (.int 0))) (dCons (d2 pIt (dVar 3) (dC (.v (.int 0)))) (dNil)))) (dNil)))))) (dNext))
  (dSeq (dAsg (dC (.v (.str "amoEWBsbweOMA"))) (nG 2))
  (dRet (dBM "str" mJoin (dC (.v (.str ""))) (dCons (dLc (iAnyD (dVar 1)) (nG 4) (dYes) (d2 pIt (dVar 2) (d2 pSub (dC (.v (.int 12))) (dBM "str" mSIndex (dVar 2) (dCons (dVar 4) (dNil))))) [4]) (dNil)))))
abbrev N_law_back : List Str := ["kind", "way", "line", "row", "one"]
theorem ok_law_back : ∀ ds h Q E, sp_law_back ds h Q E → rd_law_back (fun x _ h' => E x h') (fin Q) (startD N_law_back ds) h := by
  rintro ds h Q E ⟨_, kind, w, rfl, hk, hw, q⟩
  show rd_law_back _ _ [some (.v (.str kind)), some (.v (.str w)), none, none, none] h
  unfold rd_law_back
  by_cases hr : kind = "ring"
  · subst hr
    rw [ws_ring] at hw
    try simp -dsimp -implicitDefEqProofs only [↓rds13, ↓rds14, ↓rds1, ↓rds2, ↓rds3, ↓rds4, ↓rds5, ↓rds6, ↓rds7, ↓rds8, ↓rds9, ↓rds10, ↓rds11, ↓rds12, List.set_cons_zero, List.set_cons_succ, ne_eq, not_false_eq_true, decide_eq_true_eq, Bool.or_true, Bool.or_false, Bool.true_or, Bool.false_or, Bool.and_true, Bool.true_and, Bool.and_false, Bool.false_and, Bool.not_true, Bool.not_false, reduceCtorEq, beq_self_eq_true, true_and, and_true]
    refine cl_i ⟨rfl, _, rfl, hw, ?_⟩
    try simp -dsimp -implicitDefEqProofs only [↓rds13, ↓rds14, ↓rds1, ↓rds2, ↓rds3, ↓rds4, ↓rds5, ↓rds6, ↓rds7, ↓rds8, ↓rds9, ↓rds10, ↓rds11, ↓rds12, List.set_cons_zero, List.set_cons_succ, ne_eq, not_false_eq_true, decide_eq_true_eq, Bool.or_true, Bool.or_false, Bool.true_or, Bool.false_or, Bool.and_true, Bool.true_and, Bool.and_false, Bool.false_and, Bool.not_true, Bool.not_false, reduceCtorEq, beq_self_eq_true, true_and, and_true, rowD]
    refine cl_i ⟨rfl, _, _, _, _, rfl, ?_⟩
    rw [(row_back w hw).1]
    exact finR q
  · unfold bkF at q
    rw [if_neg hr] at q
    obtain ⟨f1, f2⟩ := signs_in w (not_ring hk hr hw)
    try simp -dsimp -implicitDefEqProofs only [↓rds13, ↓rds14, ↓rds1, ↓rds2, ↓rds3, ↓rds4, ↓rds5, ↓rds6, ↓rds7, ↓rds8, ↓rds9, ↓rds10, ↓rds11, ↓rds12, List.set_cons_zero, List.set_cons_succ, ne_eq, not_false_eq_true, decide_eq_true_eq, Bool.or_true, Bool.or_false, Bool.true_or, Bool.false_or, Bool.and_true, Bool.true_and, Bool.and_false, Bool.false_and, Bool.not_true, Bool.not_false, reduceCtorEq, beq_self_eq_true, true_and, and_true, hr, chars_signs]
    refine cmp_map (onS (getS k_BACK)) trivial (by rw [List.length_map]; omega) ?_ ?_
    · intro x hx S N hS
      obtain ⟨z, hz, rfl⟩ := List.mem_map.mp hx
      obtain ⟨i, c, e1, e2, e3⟩ := ix_back (f1 z hz)
      try simp -dsimp -implicitDefEqProofs only [↓rds13, ↓rds14, ↓rds1, ↓rds2, ↓rds3, ↓rds4, ↓rds5, ↓rds6, ↓rds7, ↓rds8, ↓rds9, ↓rds10, ↓rds11, ↓rds12, List.set_cons_zero, List.set_cons_succ, ne_eq, not_false_eq_true, decide_eq_true_eq, Bool.or_true, Bool.or_false, Bool.true_or, Bool.false_or, Bool.and_true, Bool.true_and, Bool.and_false, Bool.false_and, Bool.not_true, Bool.not_false, reduceCtorEq, beq_self_eq_true, true_and, and_true, sD, e1, e2]
      exact ⟨by decide, by rw [show (⟨#[c]⟩ : Str) = getS k_BACK z from e3]; exact hS⟩
    intro p hp
    have l1 : (((signs w).map (getS k_BACK)).map Str.length).sum = (signs w).length := by
      rw [sum_ones, List.length_map]
      intro y hy
      obtain ⟨z, hz, rfl⟩ := List.mem_map.mp hy
      exact lws_len _ (get_back z (f1 z hz)).2
    rw [onS_sD]
    have e : strsD (((signs w).map (getS k_BACK)).map sD) = some ((signs w).map (getS k_BACK)) := strsD_map ((signs w).map (getS k_BACK))
    try simp -dsimp -implicitDefEqProofs only [↓rds13, ↓rds14, ↓rds1, ↓rds2, ↓rds3, ↓rds4, ↓rds5, ↓rds6, ↓rds7, ↓rds8, ↓rds9, ↓rds10, ↓rds11, ↓rds12, List.set_cons_zero, List.set_cons_succ, ne_eq, not_false_eq_true, decide_eq_true_eq, Bool.or_true, Bool.or_false, Bool.true_or, Bool.false_or, Bool.and_true, Bool.true_and, Bool.and_false, Bool.false_and, Bool.not_true, Bool.not_false, reduceCtorEq, beq_self_eq_true, true_and, and_true, e]
    refine ⟨?_, finI (Sub.put hp) q⟩
    rw [l1]
    show (signs w).length + ((signs w).map (getS k_BACK)).length * 0 ≤ 16777216
    omega
def sp_law_mirrored : SpD := fun ds h Q _ => ds.length = 2 ∧ ∃ kind w : Str, ds = [.v (.str kind), .v (.str w)] ∧ kind ∈ kds ∧ w ∈ wsL kind ∧ Q (.v (.str (mrF kind w))) h
def rd_law_mirrored (E : ER) : SD :=
  dSeq (dIfS (dTest (d2 pEqA (dVar 0) (dC (.v (.str "ring"))))) (dSeq (dAsg (dCall sp_law_ring_row E (dCons (dVar 1) (dNil))) (nG 3))
  (dRet (dCall sp_law_ring_way E (dCons (dTup (dCons (d1 pNeg (d2 pIt (dVar 3) (dC (.v (.int 0))))) (dCons (dC (.v (.int 0))) (dNil)))) (dCons (dTup (dCons (d1 pNeg (d2 pIt (dVar 3) (dC (.v (.int 2))))) (dCons (d1 pNeg (d2 pIt (dVar 3) (dC (.v (.int 1))))) (dNil)))) (dNil)))))) (dNext))
  (dSeq (dAsg (dC (.v (.str "amoEWBsbweOMA"))) (nG 2))
  (dRet (dBM "str" mJoin (dC (.v (.str ""))) (dCons (dLc (iAnyD (dVar 1)) (nG 4) (dYes) (d2 pIt (dC (.v (.str "AMOBWEsewboma"))) (dBM "str" mSIndex (dVar 2) (dCons (dVar 4) (dNil)))) [4]) (dNil)))))
abbrev N_law_mirrored : List Str := ["kind", "way", "line", "row", "one"]
theorem ok_law_mirrored : ∀ ds h Q E, sp_law_mirrored ds h Q E → rd_law_mirrored (fun x _ h' => E x h') (fin Q) (startD N_law_mirrored ds) h := by
  rintro ds h Q E ⟨_, kind, w, rfl, hk, hw, q⟩
  show rd_law_mirrored _ _ [some (.v (.str kind)), some (.v (.str w)), none, none, none] h
  unfold rd_law_mirrored
  by_cases hr : kind = "ring"
  · subst hr
    rw [ws_ring] at hw
    try simp -dsimp -implicitDefEqProofs only [↓rds13, ↓rds14, ↓rds1, ↓rds2, ↓rds3, ↓rds4, ↓rds5, ↓rds6, ↓rds7, ↓rds8, ↓rds9, ↓rds10, ↓rds11, ↓rds12, List.set_cons_zero, List.set_cons_succ, ne_eq, not_false_eq_true, decide_eq_true_eq, Bool.or_true, Bool.or_false, Bool.true_or, Bool.false_or, Bool.and_true, Bool.true_and, Bool.and_false, Bool.false_and, Bool.not_true, Bool.not_false, reduceCtorEq, beq_self_eq_true, true_and, and_true]
    refine cl_i ⟨rfl, _, rfl, hw, ?_⟩
    try simp -dsimp -implicitDefEqProofs only [↓rds13, ↓rds14, ↓rds1, ↓rds2, ↓rds3, ↓rds4, ↓rds5, ↓rds6, ↓rds7, ↓rds8, ↓rds9, ↓rds10, ↓rds11, ↓rds12, List.set_cons_zero, List.set_cons_succ, ne_eq, not_false_eq_true, decide_eq_true_eq, Bool.or_true, Bool.or_false, Bool.true_or, Bool.false_or, Bool.and_true, Bool.true_and, Bool.and_false, Bool.false_and, Bool.not_true, Bool.not_false, reduceCtorEq, beq_self_eq_true, true_and, and_true, rowD]
    refine cl_i ⟨rfl, _, _, _, _, rfl, ?_⟩
    rw [(row_back w hw).2]
    exact finR q
  · unfold mrF at q
    rw [if_neg hr] at q
    obtain ⟨f1, f2⟩ := signs_in w (not_ring hk hr hw)
    try simp -dsimp -implicitDefEqProofs only [↓rds13, ↓rds14, ↓rds1, ↓rds2, ↓rds3, ↓rds4, ↓rds5, ↓rds6, ↓rds7, ↓rds8, ↓rds9, ↓rds10, ↓rds11, ↓rds12, List.set_cons_zero, List.set_cons_succ, ne_eq, not_false_eq_true, decide_eq_true_eq, Bool.or_true, Bool.or_false, Bool.true_or, Bool.false_or, Bool.and_true, Bool.true_and, Bool.and_false, Bool.false_and, Bool.not_true, Bool.not_false, reduceCtorEq, beq_self_eq_true, true_and, and_true, hr, chars_signs]
    refine cmp_map (onS (getS k_MIRRORED)) trivial (by rw [List.length_map]; omega) ?_ ?_
    · intro x hx S N hS
      obtain ⟨z, hz, rfl⟩ := List.mem_map.mp hx
      obtain ⟨i, c, e1, e2, e3⟩ := ix_mirrored (f1 z hz)
      try simp -dsimp -implicitDefEqProofs only [↓rds13, ↓rds14, ↓rds1, ↓rds2, ↓rds3, ↓rds4, ↓rds5, ↓rds6, ↓rds7, ↓rds8, ↓rds9, ↓rds10, ↓rds11, ↓rds12, List.set_cons_zero, List.set_cons_succ, ne_eq, not_false_eq_true, decide_eq_true_eq, Bool.or_true, Bool.or_false, Bool.true_or, Bool.false_or, Bool.and_true, Bool.true_and, Bool.and_false, Bool.false_and, Bool.not_true, Bool.not_false, reduceCtorEq, beq_self_eq_true, true_and, and_true, sD, e1, e2]
      exact ⟨by decide, by rw [show (⟨#[c]⟩ : Str) = getS k_MIRRORED z from e3]; exact hS⟩
    intro p hp
    have l1 : (((signs w).map (getS k_MIRRORED)).map Str.length).sum = (signs w).length := by
      rw [sum_ones, List.length_map]
      intro y hy
      obtain ⟨z, hz, rfl⟩ := List.mem_map.mp hy
      exact lws_len _ (get_mirrored z (f1 z hz)).2
    rw [onS_sD]
    have e : strsD (((signs w).map (getS k_MIRRORED)).map sD) = some ((signs w).map (getS k_MIRRORED)) := strsD_map ((signs w).map (getS k_MIRRORED))
    try simp -dsimp -implicitDefEqProofs only [↓rds13, ↓rds14, ↓rds1, ↓rds2, ↓rds3, ↓rds4, ↓rds5, ↓rds6, ↓rds7, ↓rds8, ↓rds9, ↓rds10, ↓rds11, ↓rds12, List.set_cons_zero, List.set_cons_succ, ne_eq, not_false_eq_true, decide_eq_true_eq, Bool.or_true, Bool.or_false, Bool.true_or, Bool.false_or, Bool.and_true, Bool.true_and, Bool.and_false, Bool.false_and, Bool.not_true, Bool.not_false, reduceCtorEq, beq_self_eq_true, true_and, and_true, e]
    refine ⟨?_, finI (Sub.put hp) q⟩
    rw [l1]
    show (signs w).length + ((signs w).map (getS k_MIRRORED)).length * 0 ≤ 16777216
    omega
theorem ws_all {kind w : Str} (hk : kind ∈ kds) (hw : w ∈ wsL kind) : w ∈ lws ++ rws ++ bws := by
  rcases kds_or hk with rfl | rfl | rfl
  · exact List.mem_append_left _ (List.mem_append_left _ hw)
  · exact List.mem_append_left _ (List.mem_append_right _ (by rw [ws_ring] at hw; exact hw))
  · exact List.mem_append_right _ (by rw [ws_box] at hw; exact hw)
theorem ws_ne {kind : Str} (hk : kind ∈ kds) : 0 < (wsL kind).length ∧ (wsL kind).length ≤ 169 := by
  rcases kds_or hk with rfl | rfl | rfl <;> decide +kernel
theorem ws_len {kind w : Str} (hk : kind ∈ kds) (hw : w ∈ wsL kind) : w.length ≤ 2 := by
  have : ∀ w ∈ lws ++ rws ++ bws, w.length ≤ 2 := by decide +kernel
  exact this w (ws_all hk hw)
end DL
/-! DLab: lots of ways -/
namespace DL
open PySem L2
/-! ### comprehensions that change the heap, an item each -/
theorem cmp_inv {g : GD} {tt : TD} {te : ED} {chk : Hd → Prop} {items : List D} {σ : Sd} {h : Hd} {Q : List D → Hd → Prop} {b : BxC Q} (P : List D → Hd → Prop) (h0 : P [] h) (hc : ∀ acc h, P acc h → chk h) (hl : items.length ≤ 1000000)
    (step : ∀ x acc h, x ∈ items → P acc h → acc.length < items.length → ∀ (S : D → Hd → Prop) (N : Hd → Prop), (∀ y h', P (acc ++ [y]) h' → S y h') → g x σ h fun σ2 h2 => tt σ2 h2 fun c h3 => dIte (c = true) (te σ2 h3 S) (N h3) .mk)
    (q : ∀ acc h', acc.length = items.length → P acc h' → Q acc h') : cmp g tt te chk items σ h Q b := by
  suffices ∀ (l acc : List D) (h : Hd), (∀ x ∈ l, x ∈ items) → acc.length + l.length = items.length → P acc h → dComp g tt te chk l acc σ h Q from this items [] h (fun _ h => h) (by simp) h0
  intro l
  induction l with
  | nil => intro acc h _ hz hp; exact ⟨hc _ _ hp, q acc h (by simpa using hz) hp⟩
  | cons x r ih =>
    intro acc h hm hz hp
    rw [List.length_cons] at hz
    refine ⟨hc _ _ hp, step x acc h (hm x List.mem_cons_self) hp (by omega) _ _ fun y h' hp' => ⟨Nat.lt_of_lt_of_le (show acc.length < 1000001 by omega) (by decide), ih _ _ (fun z hz => hm z (List.mem_cons_of_mem _ hz)) ?_ hp'⟩⟩
    rw [List.length_append]
    simp only [List.length_cons, List.length_nil]
    omega
/-! ### a row of texts, list or tuple -/
def Seq (h : Hd) (d : D) (ws : List Str) : Prop := d = .t (ws.map sD) ∨ ∃ a, d = .v (.ref a) ∧ h a = some (.lst (ws.map sD))
theorem Seq.up {h h' : Hd} {d : D} {ws : List Str} (s : Seq h d ws) (u : Sub h h') : Seq h' d ws := by
  rcases s with e | ⟨a, e, g⟩
  · exact .inl e
  · exact .inr ⟨a, e, u _ _ g⟩
theorem iAny_seq {h : Hd} {d : D} {ws : List Str} {K : List D → (Hd → Prop) → Hd → Prop} (s : Seq h d ws) (k : ∀ chk : Hd → Prop, (∀ h', Seq h' d ws → chk h') → K (ws.map sD) chk h) : iAnyX d h K := by
  rcases s with rfl | ⟨a, rfl, g⟩
  · rw [iAnyX_t]; exact k _ fun _ _ => trivial
  · rw [iAnyX_r, g, iO_s]
    refine k _ fun h' u => ?_
    rcases u with e | ⟨b, e, g'⟩
    · cases e
    · cases e; exact rdL_l g'
theorem sD_get {l : List Str} {i : Nat} {x : D} (h : (l.map sD)[i]? = some x) : ∃ z, l[i]? = some z ∧ x = sD z := by
  rw [List.getElem?_map] at h
  obtain ⟨z, hz, e⟩ := Option.map_eq_some_iff.mp h
  exact ⟨z, hz, e.symm⟩
theorem flat_sD (l : List Str) : (l.map sD).all flatD = true := by
  rw [List.all_map]
  exact List.all_eq_true.mpr fun _ _ => rfl
/-! ### each once -/
section
variable {α : Type} [DecidableEq α]
def dd1 (d : List α) (x : α) : List α := if x ∈ d then d else d ++ [x]
def dd (l : List α) : List α := l.foldl dd1 []
theorem mem_dd1 {d : List α} {x y : α} : y ∈ dd1 d x ↔ y ∈ d ∨ y = x := by
  unfold dd1
  split
  · rename_i h
    exact ⟨.inl, fun z => z.elim id fun e => e ▸ h⟩
  · simp
theorem mem_fold {l : List α} : ∀ {d : List α} {y : α}, y ∈ l.foldl dd1 d ↔ y ∈ d ∨ y ∈ l := by
  induction l with
  | nil => intro d y; simp
  | cons x r ih =>
    intro d y
    rw [List.foldl_cons, ih, mem_dd1, List.mem_cons]
    constructor
    · rintro ((h | h) | h)
      · exact .inl h
      · exact .inr (.inl h)
      · exact .inr (.inr h)
    · rintro (h | h | h)
      · exact .inl (.inl h)
      · exact .inl (.inr h)
      · exact .inr h
theorem mem_dd {l : List α} {y : α} : y ∈ dd l ↔ y ∈ l := by unfold dd; rw [mem_fold]; simp
theorem nodup_dd1 {d : List α} {x : α} (h : d.Nodup) : (dd1 d x).Nodup := by
  unfold dd1
  split
  · exact h
  · rename_i n
    rw [List.nodup_append]
    exact ⟨h, (by simp), fun a ha b hb e => n (by rw [← List.mem_singleton.mp hb, ← e]; exact ha)⟩
theorem nodup_fold {l : List α} : ∀ {d : List α}, d.Nodup → (l.foldl dd1 d).Nodup := by
  induction l with
  | nil => intro d h; exact h
  | cons x r ih => intro d h; exact ih (nodup_dd1 h)
theorem nodup_dd (l : List α) : (dd l).Nodup := nodup_fold List.nodup_nil
theorem len_fold {l : List α} : ∀ {d : List α}, (l.foldl dd1 d).length ≤ d.length + l.length ∧ ((l.foldl dd1 d).length = d.length + l.length ↔ l.Nodup ∧ ∀ x ∈ l, x ∉ d) := by
  induction l with
  | nil => intro d; simp
  | cons x r ih =>
    intro d
    obtain ⟨h1, h2⟩ := ih (d := dd1 d x)
    rw [List.foldl_cons, List.length_cons]
    by_cases c : x ∈ d
    · have e : dd1 d x = d := if_pos c
      rw [e] at h1 h2 ⊢
      refine ⟨by omega, fun z => by omega, fun ⟨_, z⟩ => absurd c (z x List.mem_cons_self)⟩
    · have e : dd1 d x = d ++ [x] := if_neg c
      rw [e] at h1 h2 ⊢
      rw [List.length_append, List.length_singleton] at h1 h2
      refine ⟨by omega, fun z => ?_, fun ⟨z1, z2⟩ => ?_⟩
      · obtain ⟨n1, n2⟩ := h2.mp (by omega)
        refine ⟨List.nodup_cons.mpr ⟨fun hx => n2 x hx (by simp), n1⟩, fun y hy => ?_⟩
        rcases List.mem_cons.mp hy with rfl | hy
        · exact c
        · exact fun hyd => n2 y hy (List.mem_append_left _ hyd)
      · obtain ⟨n1, n2⟩ := List.nodup_cons.mp z1
        have := h2.mpr ⟨n2, fun y hy hyd => by
          rcases List.mem_append.mp hyd with k | k
          · exact z2 y (List.mem_cons_of_mem _ hy) k
          · rw [List.mem_singleton.mp k] at hy; exact n1 hy⟩
        omega
theorem len_dd (l : List α) : (dd l).length ≤ l.length := by have := (len_fold (l := l) (d := [])).1; simpa [dd] using this
theorem len_dd_lt (l : List α) : (dd l).length < l.length ↔ ¬ l.Nodup := by
  obtain ⟨h1, h2⟩ := len_fold (l := l) (d := [])
  have e : dd l = l.foldl dd1 [] := rfl
  rw [e]
  simp at h1 h2
  rw [← h2]
  omega
theorem dd_take {l : List α} {i : Nat} {x : α} (h : l[i]? = some x) : dd (l.take (i + 1)) = dd1 (dd (l.take i)) x := by
  unfold dd
  rw [List.take_add_one, h, List.foldl_append]
  rfl
end
/-! ### dicts whose keys are texts -/
def keysS (d : List Str) : List (Key × D) := d.map fun x => (.inr x, .v (.bl true))
theorem keysS_len (d : List Str) : (keysS d).length = d.length := List.length_map _
theorem valS (d : List Str) (x : Str) : valD (keysS d) (.inr x) = if x ∈ d then some (.v (.bl true)) else none := by
  induction d with
  | nil => rfl
  | cons a r ih =>
    unfold keysS at ih ⊢
    rw [List.map_cons, valD]
    by_cases c : a = x
    · subst c; simp
    · have c' : ¬ x = a := fun e => c e.symm
      rw [if_neg (by simpa using c), ih]
      simp [c']
theorem putS (d : List Str) (x : Str) : putD (keysS d) (.inr x) (.v (.bl true)) = keysS (dd1 d x) := by
  unfold putD dd1
  rw [valS]
  by_cases c : x ∈ d
  · rw [if_pos c, if_pos c]
    refine (if_pos rfl).trans ?_
    unfold keysS
    rw [List.map_map]
    refine List.map_congr_left fun y _ => ?_
    show (if (Sum.inr y : Key) = .inr x then _ else _) = _
    split <;> rfl
  · rw [if_neg c, if_neg c, if_neg (by simp)]
    unfold keysS
    rw [List.map_append]
    rfl
theorem valS_in (d : List Str) (x : Str) : (valD (keysS d) (.inr x)).isSome = decide (x ∈ d) := by
  rw [valS]
  by_cases c : x ∈ d
  · rw [if_pos c, decide_eq_true c]; rfl
  · rw [if_neg c, decide_eq_false c]; rfl
/-! ### places -/
def pof (kind w : Str) : Nat := (wsL kind).idxOf w
theorem pof_at {kind w : Str} (h : w ∈ wsL kind) : (wsL kind)[pof kind w]? = some w := by
  unfold pof
  have hl := List.idxOf_lt_length_of_mem h
  rw [List.getElem?_eq_getElem hl, List.getElem_idxOf hl]
theorem pof_inj {kind w v : Str} (h : w ∈ wsL kind) (h' : v ∈ wsL kind) (e : pof kind w = pof kind v) : w = v := by
  have a := pof_at h
  rw [e, pof_at h'] at a
  cases a
  rfl
theorem pof_all {kind : Str} (hk : kind ∈ kds) : (wsL kind).map (pof kind) = List.range (wsL kind).length := by
  rcases kds_or hk with rfl | rfl | rfl <;> decide +kernel
theorem ws_nodup {kind : Str} (hk : kind ∈ kds) : (wsL kind).Nodup := by
  have h : ((wsL kind).map (pof kind)).Nodup := by rw [pof_all hk]; exact List.nodup_range
  exact List.Pairwise.imp (fun n e => n (by rw [e])) (List.pairwise_map.mp h)
theorem line_ix : ∀ w ∈ lws, ixS "amoEWBsbweOMA" w = some (lws.idxOf w) := by decide +kernel
theorem ring_ix : ∀ w ∈ rws, ixStr rws w = some (rws.idxOf w) := by decide +kernel
theorem box_ix : ∀ a ∈ lws, ∀ b ∈ lws, bws.idxOf (a ++ b) = lws.idxOf a * 13 + lws.idxOf b := by decide +kernel
def sp_place_of : SpD := fun ds h Q _ => ds.length = 2 ∧ ∃ kind w : Str, ds = [.v (.str kind), .v (.str w)] ∧ kind ∈ kds ∧ w ∈ wsL kind ∧ Q (.v (.int (pof kind w : Nat))) h
def rd_place_of (E : ER) : SD :=
  dSeq (dIfS (dTest (d2 pEqA (dVar 0) (dC (.v (.str "line"))))) (dRet (dBM "str" mSIndex (dC c_LINE) (dCons (dVar 1) (dNil)))) (dNext))
  (dSeq (dIfS (dTest (d2 pEqA (dVar 0) (dC (.v (.str "ring"))))) (dRet (dKix c_RING (dCons (dVar 1) (dNil)))) (dNext))
  (dRet (d2 pAdd (d2 pMul (dBM "str" mSIndex (dC c_LINE) (dCons (d2 pIt (dVar 1) (dC (.v (.int 0)))) (dNil))) (dCB cLen (dCons (dC c_LINE) (dNil)))) (dBM "str" mSIndex (dC c_LINE) (dCons (d2 pIt (dVar 1) (dC (.v (.int 1)))) (dNil))))))
abbrev N_place_of : List Str := ["kind", "way"]
theorem strsD_sD (l : List Str) : strsD (l.map sD) = some l := strsD_map l
theorem ok_place_of : ∀ ds h Q E, sp_place_of ds h Q E → rd_place_of (fun x _ h' => E x h') (fin Q) (startD N_place_of ds) h := by
  rintro ds h Q E ⟨_, kind, w, rfl, hk, hw, q⟩
  show rd_place_of _ _ [some (.v (.str kind)), some (.v (.str w))] h
  unfold rd_place_of
  unfold pof at q
  rcases kds_or hk with rfl | rfl | rfl
  · rw [ws_line] at hw q
    have e := line_ix w hw
    try simp -dsimp -implicitDefEqProofs only [↓rds13, ↓rds14, ↓rds1, ↓rds2, ↓rds3, ↓rds4, ↓rds5, ↓rds6, ↓rds7, ↓rds8, ↓rds9, ↓rds10, ↓rds11, ↓rds12, List.set_cons_zero, List.set_cons_succ, ne_eq, not_false_eq_true, decide_eq_true_eq, Bool.or_true, Bool.or_false, Bool.true_or, Bool.false_or, Bool.and_true, Bool.true_and, Bool.and_false, Bool.false_and, Bool.not_true, Bool.not_false, reduceCtorEq, beq_self_eq_true, true_and, and_true, if_true, if_false, Bool.false_eq_true, c_LINE, e]
    exact finR q
  · rw [ws_ring] at hw q
    have e := ring_ix w hw
    try simp -dsimp -implicitDefEqProofs only [↓rds13, ↓rds14, ↓rds1, ↓rds2, ↓rds3, ↓rds4, ↓rds5, ↓rds6, ↓rds7, ↓rds8, ↓rds9, ↓rds10, ↓rds11, ↓rds12, List.set_cons_zero, List.set_cons_succ, ne_eq, not_false_eq_true, decide_eq_true_eq, Bool.or_true, Bool.or_false, Bool.true_or, Bool.false_or, Bool.and_true, Bool.true_and, Bool.and_false, Bool.false_and, Bool.not_true, Bool.not_false, reduceCtorEq, beq_self_eq_true, true_and, and_true, if_true, if_false, Bool.false_eq_true, rl, ring_D, strsD_sD, Option.bind_some, e]
    exact finR q
  · rw [ws_box] at hw q
    obtain ⟨c, d, rfl, e2⟩ := len_two (bws_len w hw)
    obtain ⟨hc, hd⟩ := bws_two.mp hw
    have e0 : atI (one c ++ one d).cps.toList 0 = some c := by rw [e2]; exact atI_nat (j := 0) rfl
    have e1 : atI (one c ++ one d).cps.toList 1 = some d := by rw [e2]; exact atI_nat (j := 1) rfl
    have i0 : ixS "amoEWBsbweOMA" ⟨#[c]⟩ = some (lws.idxOf (one c)) := line_ix _ (one_lws.mpr hc)
    have i1 : ixS "amoEWBsbweOMA" ⟨#[d]⟩ = some (lws.idxOf (one d)) := line_ix _ (one_lws.mpr hd)
    rw [box_ix _ (one_lws.mpr hc) _ (one_lws.mpr hd)] at q
    try simp -dsimp -implicitDefEqProofs only [↓rds13, ↓rds14, ↓rds1, ↓rds2, ↓rds3, ↓rds4, ↓rds5, ↓rds6, ↓rds7, ↓rds8, ↓rds9, ↓rds10, ↓rds11, ↓rds12, List.set_cons_zero, List.set_cons_succ, ne_eq, not_false_eq_true, decide_eq_true_eq, Bool.or_true, Bool.or_false, Bool.true_or, Bool.false_or, Bool.and_true, Bool.true_and, Bool.and_false, Bool.false_and, Bool.not_true, Bool.not_false, reduceCtorEq, beq_self_eq_true, true_and, and_true, if_true, if_false, Bool.false_eq_true, bl, br, c_LINE, e0, e1, i0, i1]
    have l2 : (one c ++ one d).length ≤ sizeLine := by rw [bws_len _ hw]; decide
    refine ⟨l2, by decide, mulOk_r _ (by decide), l2, finR ?_⟩
    rw [show ((("amoEWBsbweOMA" : Str).length : Nat) : Int) = 13 from by decide]
    rw [Int.natCast_add, Int.natCast_mul] at q
    exact q
/-- a lot's ways in order -/
def ordL (kind : Str) (ws : List Str) : List Str := (wsL kind).filter fun w => decide (w ∈ ws)
def ofP (kind : Str) (x : Int) : Str := (wsL kind).getD x.toNat ""
theorem ofP_pof {kind w : Str} (h : w ∈ wsL kind) : ofP kind ((pof kind w : Nat) : Int) = w := by
  unfold ofP
  rw [Int.toNat_natCast, List.getD_eq_getElem?_getD, pof_at h]
  rfl
def pofI (kind w : Str) : Int := ((pof kind w : Nat) : Int)
def kvO (kind : Str) (d : List Str) : List (Key × D) := d.map fun w => (.inl (pofI kind w), sD w)
theorem keysI_O (kind : Str) : ∀ d : List Str, keysI (kvO kind d) = some (d.map (pofI kind))
  | [] => rfl
  | a :: r => by
    have ih := keysI_O kind r
    unfold kvO at ih ⊢
    rw [List.map_cons, keysI, ih]
    rfl
theorem valO {kind : Str} {d : List Str} {x : Str} (hd : ∀ w ∈ d, w ∈ wsL kind) (hx : x ∈ wsL kind) : valD (kvO kind d) (.inl (pofI kind x)) = if x ∈ d then some (sD x) else none := by
  induction d with
  | nil => rfl
  | cons a r ih =>
    have ih := ih fun w hw => hd w (List.mem_cons_of_mem _ hw)
    unfold kvO at ih ⊢
    rw [List.map_cons, valD]
    by_cases c : a = x
    · subst c; simp
    · have c' : ¬ x = a := fun e => c e.symm
      have n : ¬ (Sum.inl (pofI kind a) : Key) = .inl (pofI kind x) := fun e => by
        have e : pofI kind a = pofI kind x := Sum.inl.inj e
        exact c (pof_inj (hd a List.mem_cons_self) hx (by unfold pofI at e; omega))
      rw [if_neg n, ih]
      simp [c']
theorem putO {kind : Str} {d : List Str} {x : Str} (hd : ∀ w ∈ d, w ∈ wsL kind) (hx : x ∈ wsL kind) : putD (kvO kind d) (.inl (pofI kind x)) (sD x) = kvO kind (dd1 d x) := by
  unfold putD dd1
  rw [valO hd hx]
  by_cases c : x ∈ d
  · rw [if_pos c, if_pos c]
    refine (if_pos rfl).trans ?_
    unfold kvO
    rw [List.map_map]
    refine List.map_congr_left fun y hy => ?_
    show (if (Sum.inl (pofI kind y) : Key) = .inl (pofI kind x) then (_, sD x) else (_, sD y)) = (_, sD y)
    split
    · rename_i e
      have e : pofI kind y = pofI kind x := Sum.inl.inj e
      rw [pof_inj (hd y hy) hx (by unfold pofI at e; omega)]
    · rfl
  · rw [if_neg c, if_neg c]
    refine (if_neg (by simp)).trans ?_
    unfold kvO
    rw [List.map_append]
    rfl
theorem ext_asc : ∀ {l m : List Int}, l.Pairwise (· < ·) → m.Pairwise (· < ·) → (∀ x, x ∈ l ↔ x ∈ m) → l = m
  | [], [], _, _, _ => rfl
  | [], b :: m, _, _, h => absurd ((h b).mpr List.mem_cons_self) (by simp)
  | a :: l, [], _, _, h => absurd ((h a).mp List.mem_cons_self) (by simp)
  | a :: l, b :: m, h1, h2, h => by
    obtain ⟨a1, l1⟩ := List.pairwise_cons.mp h1
    obtain ⟨b1, m1⟩ := List.pairwise_cons.mp h2
    have e : a = b := by
      rcases List.mem_cons.mp ((h a).mp List.mem_cons_self) with z | z
      · exact z
      · rcases List.mem_cons.mp ((h b).mpr List.mem_cons_self) with w | w
        · exact w.symm
        · have := a1 b w; have := b1 a z; omega
    subst e
    rw [ext_asc l1 m1 fun x => ?_]
    constructor
    · intro hx
      rcases List.mem_cons.mp ((h x).mp (List.mem_cons_of_mem _ hx)) with z | z
      · have := a1 x hx; omega
      · exact z
    · intro hx
      rcases List.mem_cons.mp ((h x).mpr (List.mem_cons_of_mem _ hx)) with z | z
      · have := b1 x hx; omega
      · exact z
theorem ordL_sub {kind : Str} {ws : List Str} : ∀ w ∈ ordL kind ws, w ∈ wsL kind ∧ w ∈ ws := fun w h => by
  unfold ordL at h
  obtain ⟨h1, h2⟩ := List.mem_filter.mp h
  exact ⟨h1, by simpa using h2⟩
theorem mem_ordL {kind w : Str} {ws : List Str} : w ∈ ordL kind ws ↔ w ∈ wsL kind ∧ w ∈ ws := by
  unfold ordL
  rw [List.mem_filter, decide_eq_true_eq]
theorem ordL_len {kind : Str} (hk : kind ∈ kds) (ws : List Str) : (ordL kind ws).length ≤ 169 := Nat.le_trans (List.length_filter_le _ _) (ws_ne hk).2
theorem ordL_congr {kind : Str} {ws vs : List Str} (h : ∀ w ∈ wsL kind, w ∈ ws ↔ w ∈ vs) : ordL kind ws = ordL kind vs := List.filter_congr fun w hw => decide_eq_decide.mpr (h w hw)
theorem ordL_ordL (kind : Str) (ws : List Str) : ordL kind (ordL kind ws) = ordL kind ws := ordL_congr fun w hw => by rw [mem_ordL]; exact ⟨fun h => h.2, fun h => ⟨hw, h⟩⟩
theorem ordL_asc {kind : Str} (hk : kind ∈ kds) (ws : List Str) : ((ordL kind ws).map (pofI kind)).Pairwise (· < ·) := by
  have h : ((wsL kind).map (pof kind)).Pairwise (· < ·) := by rw [pof_all hk]; exact List.pairwise_lt_range
  have h2 : (wsL kind).Pairwise fun a b => pofI kind a < pofI kind b := (List.pairwise_map.mp h).imp fun z => by unfold pofI; omega
  exact List.pairwise_map.mpr (h2.sublist List.filter_sublist)
/-- the places that stand, in order, and the ways there -/
theorem sorted_ord {kind : Str} (hk : kind ∈ kds) {d ws : List Str} {l : List Int} (hm : ∀ w, w ∈ d ↔ w ∈ ws) (hw : ∀ w ∈ ws, w ∈ wsL kind) (hd : d.Nodup) (hp : l.Perm (d.map (pofI kind))) (hs : l.Pairwise (· ≤ ·)) : l = (ordL kind ws).map (pofI kind) := by
  have nd : (d.map (pofI kind)).Nodup := by
    refine List.pairwise_map.mpr (hd.imp_of_mem fun {a b} ha hb n e => n ?_)
    exact pof_inj (hw a ((hm a).mp ha)) (hw b ((hm b).mp hb)) (by unfold pofI at e; omega)
  have nl : l.Nodup := hp.nodup_iff.mpr nd
  refine ext_asc ((hs.and nl).imp fun ⟨h1, h2⟩ => by omega) (ordL_asc hk ws) fun x => ?_
  rw [hp.mem_iff, List.mem_map, List.mem_map]
  constructor
  · rintro ⟨w, h, e⟩
    exact ⟨w, mem_ordL.mpr ⟨hw w ((hm w).mp h), (hm w).mp h⟩, e⟩
  · rintro ⟨w, h, e⟩
    exact ⟨w, (hm w).mpr (mem_ordL.mp h).2, e⟩
def sp_ordered : SpD := fun ds h Q _ => ds.length = 2 ∧ ∃ (kind : Str) (d : D) (ws : List Str) (h0 : Hd), ds = [.v (.str kind), d] ∧ kind ∈ kds ∧ Seq h d ws ∧ (∀ w ∈ ws, w ∈ wsL kind) ∧ ws.length ≤ 1000 ∧ Sub h0 h ∧ Q (.t ((ordL kind ws).map sD)) h0
def rd_ordered (E : ER) : SD :=
  dSeq (dAsg (dNewK) (nG 2))
  (dSeq (dFor (iAnyD (dVar 1)) (nG 3) (dAsg (dVar 3) (subG (dVar 2) (dCall sp_place_of E (dCons (dVar 0) (dCons (dVar 3) (dNil)))) setK)))
  (dRet (dCB cTuple (dCons (dLc (iAnyD (dCB cSortedA (dCons (dVar 2) (dNil)))) (nG 4) (dYes) (d2 pIt (dVar 2) (dVar 4)) [4]) (dNil)))))
abbrev N_ordered : List Str := ["kind", "words", "found", "word", "place"]
theorem ok_ordered : ∀ ds h Q E, sp_ordered ds h Q E → rd_ordered (fun x _ h' => E x h') (fin Q) (startD N_ordered ds) h := by
  rintro ds h Q E ⟨_, kind, d, ws, h0, rfl, hk, sq, hw, hl, sb, q⟩
  show rd_ordered _ _ [some (.v (.str kind)), some d, none, none, none] h
  unfold rd_ordered
  try simp -dsimp -implicitDefEqProofs only [↓rds13, ↓rds14, ↓rds1, ↓rds2, ↓rds3, ↓rds4, ↓rds5, ↓rds6, ↓rds7, ↓rds8, ↓rds9, ↓rds10, ↓rds11, ↓rds12, List.set_cons_zero, List.set_cons_succ, ne_eq, not_false_eq_true, decide_eq_true_eq, Bool.or_true, Bool.or_false, Bool.true_or, Bool.false_or, Bool.and_true, Bool.true_and, Bool.and_false, Bool.false_and, Bool.not_true, Bool.not_false, reduceCtorEq, beq_self_eq_true, true_and, and_true, if_true, if_false, Bool.false_eq_true]
  refine al_i fun f hf => ?_
  try simp -dsimp -implicitDefEqProofs only [↓rds13, ↓rds14, ↓rds1, ↓rds2, ↓rds3, ↓rds4, ↓rds5, ↓rds6, ↓rds7, ↓rds8, ↓rds9, ↓rds10, ↓rds11, ↓rds12, List.set_cons_zero, List.set_cons_succ, ne_eq, not_false_eq_true, decide_eq_true_eq, Bool.or_true, Bool.or_false, Bool.true_or, Bool.false_or, Bool.and_true, Bool.true_and, Bool.and_false, Bool.false_and, Bool.not_true, Bool.not_false, reduceCtorEq, beq_self_eq_true, true_and, and_true, if_true, if_false, Bool.false_eq_true]
  refine iAny_seq (sq.up (Sub.put hf)) fun chk hchk => ?_
  refine loop_of (fun i σ h' => h' = put h f (.dk (kvO kind (dd (ws.take i)))) ∧ ∃ v, σ = [some (.v (.str kind)), some d, some (.v (.ref f)), v, none]) ⟨rfl, _, rfl⟩ (fun i σ h' _ ⟨e, _⟩ => ?_) ?_ ?_
  · rw [e]
    exact hchk _ (sq.up (Sub.put hf))
  · rintro i x σ h' hx ⟨rfl, v, rfl⟩ N hN
    obtain ⟨w, hw1, rfl⟩ := sD_get hx
    have ww := hw w (List.mem_of_getElem? hw1)
    try simp -dsimp -implicitDefEqProofs only [↓rds13, ↓rds14, ↓rds1, ↓rds2, ↓rds3, ↓rds4, ↓rds5, ↓rds6, ↓rds7, ↓rds8, ↓rds9, ↓rds10, ↓rds11, ↓rds12, List.set_cons_zero, List.set_cons_succ, ne_eq, not_false_eq_true, decide_eq_true_eq, Bool.or_true, Bool.or_false, Bool.true_or, Bool.false_or, Bool.and_true, Bool.true_and, Bool.and_false, Bool.false_and, Bool.not_true, Bool.not_false, reduceCtorEq, beq_self_eq_true, true_and, and_true, if_true, if_false, Bool.false_eq_true, sD]
    refine cl_i ⟨rfl, kind, w, rfl, hk, ww, ?_⟩
    try simp -dsimp -implicitDefEqProofs only [↓rds13, ↓rds14, ↓rds1, ↓rds2, ↓rds3, ↓rds4, ↓rds5, ↓rds6, ↓rds7, ↓rds8, ↓rds9, ↓rds10, ↓rds11, ↓rds12, List.set_cons_zero, List.set_cons_succ, ne_eq, not_false_eq_true, decide_eq_true_eq, Bool.or_true, Bool.or_false, Bool.true_or, Bool.false_or, Bool.and_true, Bool.true_and, Bool.and_false, Bool.false_and, Bool.not_true, Bool.not_false, reduceCtorEq, beq_self_eq_true, true_and, and_true, if_true, if_false, Bool.false_eq_true, sD]
    refine ⟨?_, ?_⟩
    · unfold kvO
      rw [List.length_map]
      have := len_dd (ws.take i)
      rw [List.length_take] at this
      exact Nat.lt_of_le_of_lt (show _ ≤ 1000 by omega) (by decide)
    · have e := putO (kind := kind) (d := dd (ws.take i)) (x := w) (fun y hy => hw y (List.mem_of_mem_take (mem_dd.mp hy))) ww
      have e : putD (kvO kind (dd (ws.take i))) (.inl ((pof kind w : Nat) : Int)) (.v (.str w)) = _ := e
      rw [e, ← dd_take hw1]
      exact hN _ _ ⟨rfl, _, rfl⟩
  · rintro σ h' ⟨rfl, v, rfl⟩
    rw [show ws.take (ws.map sD).length = ws from List.take_of_length_le (by rw [List.length_map]; exact Nat.le_refl _)]
    have ld := len_dd ws
    try simp -dsimp -implicitDefEqProofs only [↓rds13, ↓rds14, ↓rds1, ↓rds2, ↓rds3, ↓rds4, ↓rds5, ↓rds6, ↓rds7, ↓rds8, ↓rds9, ↓rds10, ↓rds11, ↓rds12, List.set_cons_zero, List.set_cons_succ, ne_eq, not_false_eq_true, decide_eq_true_eq, Bool.or_true, Bool.or_false, Bool.true_or, Bool.false_or, Bool.and_true, Bool.true_and, Bool.and_false, Bool.false_and, Bool.not_true, Bool.not_false, reduceCtorEq, beq_self_eq_true, true_and, and_true, if_true, if_false, Bool.false_eq_true, keysI_O]
    refine ⟨by rw [List.length_map]; omega, srt_i fun l hp hs => al_i fun r hr => ?_⟩
    have el := sorted_ord hk (ws := ws) (fun w => mem_dd) hw (nodup_dd ws) hp hs
    subst el
    try simp -dsimp -implicitDefEqProofs only [↓rds13, ↓rds14, ↓rds1, ↓rds2, ↓rds3, ↓rds4, ↓rds5, ↓rds6, ↓rds7, ↓rds8, ↓rds9, ↓rds10, ↓rds11, ↓rds12, List.set_cons_zero, List.set_cons_succ, ne_eq, not_false_eq_true, decide_eq_true_eq, Bool.or_true, Bool.or_false, Bool.true_or, Bool.false_or, Bool.and_true, Bool.true_and, Bool.and_false, Bool.false_and, Bool.not_true, Bool.not_false, reduceCtorEq, beq_self_eq_true, true_and, and_true, if_true, if_false, Bool.false_eq_true]
    have nfr := nf hr
    have gf : put (put h f (.dk (kvO kind (dd ws)))) r (.lst (intsD ((ordL kind ws).map (pofI kind)))) f = some (.dk (kvO kind (dd ws))) := by rw [put_ne nfr.symm, put_same]
    have ol := ordL_len hk ws
    refine cmp_map (fun x => match x with | .v (.int i) => sD (ofP kind i) | d => d) (rdL_l put_same) (by rw [len_intsD, List.length_map]; omega) ?_ ?_
    · intro x hx S N hS
      obtain ⟨y, hy, rfl⟩ : ∃ y ∈ ordL kind ws, x = .v (.int (pofI kind y)) := by
        unfold intsD at hx
        obtain ⟨i, hi, rfl⟩ := List.mem_map.mp hx
        obtain ⟨y, hy, rfl⟩ := List.mem_map.mp hi
        exact ⟨y, hy, rfl⟩
      obtain ⟨y1, y2⟩ := mem_ordL.mp hy
      have e : valD (kvO kind (dd ws)) (.inl (pofI kind y)) = some (sD y) := by
        rw [valO (fun z hz => hw z (mem_dd.mp hz)) y1, if_pos (mem_dd.mpr y2)]
      have hS : S (sD (ofP kind (pofI kind y))) _ := hS
      rw [show ofP kind (pofI kind y) = y from ofP_pof y1] at hS
      try simp -dsimp -implicitDefEqProofs only [↓rds13, ↓rds14, ↓rds1, ↓rds2, ↓rds3, ↓rds4, ↓rds5, ↓rds6, ↓rds7, ↓rds8, ↓rds9, ↓rds10, ↓rds11, ↓rds12, List.set_cons_zero, List.set_cons_succ, ne_eq, not_false_eq_true, decide_eq_true_eq, Bool.or_true, Bool.or_false, Bool.true_or, Bool.false_or, Bool.and_true, Bool.true_and, Bool.and_false, Bool.false_and, Bool.not_true, Bool.not_false, reduceCtorEq, beq_self_eq_true, true_and, and_true, if_true, if_false, Bool.false_eq_true, gf, e]
      exact hS
    intro p hp
    try simp -dsimp -implicitDefEqProofs only [↓rds13, ↓rds14, ↓rds1, ↓rds2, ↓rds3, ↓rds4, ↓rds5, ↓rds6, ↓rds7, ↓rds8, ↓rds9, ↓rds10, ↓rds11, ↓rds12, List.set_cons_zero, List.set_cons_succ, ne_eq, not_false_eq_true, decide_eq_true_eq, Bool.or_true, Bool.or_false, Bool.true_or, Bool.false_or, Bool.and_true, Bool.true_and, Bool.and_false, Bool.false_and, Bool.not_true, Bool.not_false, reduceCtorEq, beq_self_eq_true, true_and, and_true, if_true, if_false, Bool.false_eq_true]
    refine finI (hs := h0) ?_ ?_
    · exact sb.trans ((Sub.put hf).trans ((Sub.put hr).trans (Sub.put hp)))
    · have : (intsD ((ordL kind ws).map (pofI kind))).map (fun x => match x with | .v (.int i) => sD (ofP kind i) | d => d) = (ordL kind ws).map sD := by
        unfold intsD
        rw [List.map_map, List.map_map]
        exact List.map_congr_left fun y hy => by
          show sD (ofP kind (pofI kind y)) = sD y
          rw [show ofP kind (pofI kind y) = y from ofP_pof (mem_ordL.mp hy).1]
      rw [this]
      exact q
def sp_has_doubles : SpD := fun ds h Q _ => ds.length = 1 ∧ ∃ (d : D) (ws : List Str), ds = [d] ∧ Seq h d ws ∧ ws.length ≤ 1000 ∧ Q (.v (.bl (!decide ws.Nodup))) h
def rd_has_doubles (E : ER) : SD :=
  dRet (d2 pLt (dCB cLen (dCons (dDc (iAnyD (dVar 0)) (nG 1) (dYes) (dVar 1) (dC (.v (.bl true))) [1]) (dNil))) (dCB cLen (dCons (dVar 0) (dNil))))
abbrev N_has_doubles : List Str := ["values", "value"]
theorem len_seq {h : Hd} {d : D} {ws : List Str} {Q : KD} (s : Seq h d ws) (q : Q (.v (.int (ws.length : Int))) h) : cLen [d] h Q := by
  rcases s with rfl | ⟨a, rfl, g⟩
  · rw [cLen_t, List.length_map]; exact q
  · rw [cLen_r, g, lenO_l, List.length_map]; exact q
/-- {text: True for text in row} -/
theorem dc_seq {h : Hd} {ws : List Str} {chk : Hd → Prop} {i : Nat} {σ : Sd} {Q : List (Key × D) → Hd → Prop} {b : BxD Q} (hi : i < σ.length) (hc : chk h) (hl : ws.length ≤ 1000) (q : Q (keysS (dd ws)) h) : dcm (nG i) dYes (dVar i) (dC (.v (.bl true))) chk (ws.map sD) σ h Q b := by
  refine dcm_of (fun j => keysS (dd (ws.take j))) rfl hc ?_ ?_
  · intro j x hx S N hS
    obtain ⟨w, hw, rfl⟩ := sD_get hx
    rw [dd_take hw] at hS
    have g : ∀ (σ : Sd) (i : Nat) (d : D), i < σ.length → gS (sS σ i d) i = some d := by
      intro σ
      induction σ with
      | nil => intro i d h; exact absurd h (Nat.not_lt_zero _)
      | cons a r ih =>
        intro i d h
        cases i with
        | zero => rfl
        | succ i => exact ih i d (Nat.lt_of_succ_lt_succ h)
    have ld := len_dd (ws.take j)
    rw [List.length_take] at ld
    try simp -dsimp -implicitDefEqProofs only [↓rds13, ↓rds14, ↓rds1, ↓rds2, ↓rds3, ↓rds4, ↓rds5, ↓rds6, ↓rds7, ↓rds8, ↓rds9, ↓rds10, ↓rds11, ↓rds12, List.set_cons_zero, List.set_cons_succ, ne_eq, not_false_eq_true, decide_eq_true_eq, Bool.or_true, Bool.or_false, Bool.true_or, Bool.false_or, Bool.and_true, Bool.true_and, Bool.and_false, Bool.false_and, Bool.not_true, Bool.not_false, reduceCtorEq, beq_self_eq_true, true_and, and_true, if_true, if_false, Bool.false_eq_true, sD, g σ i (D.v (.str w)) hi]
    refine ⟨?_, ?_⟩
    · rw [keysS_len]
      exact Nat.lt_of_le_of_lt (show _ ≤ 1000 by omega) (by decide)
    · rw [putS]; exact hS
  · rw [show ws.take (ws.map sD).length = ws from List.take_of_length_le (by rw [List.length_map]; exact Nat.le_refl _)]
    exact q
theorem ok_has_doubles : ∀ ds h Q E, sp_has_doubles ds h Q E → rd_has_doubles (fun x _ h' => E x h') (fin Q) (startD N_has_doubles ds) h := by
  rintro ds h Q E ⟨_, d, ws, rfl, sq, hl, q⟩
  show rd_has_doubles _ _ [some d, none] h
  unfold rd_has_doubles
  try simp -dsimp -implicitDefEqProofs only [↓rds13, ↓rds14, ↓rds1, ↓rds2, ↓rds3, ↓rds4, ↓rds5, ↓rds6, ↓rds7, ↓rds8, ↓rds9, ↓rds10, ↓rds11, ↓rds12, List.set_cons_zero, List.set_cons_succ, ne_eq, not_false_eq_true, decide_eq_true_eq, Bool.or_true, Bool.or_false, Bool.true_or, Bool.false_or, Bool.and_true, Bool.true_and, Bool.and_false, Bool.false_and, Bool.not_true, Bool.not_false, reduceCtorEq, beq_self_eq_true, true_and, and_true, if_true, if_false, Bool.false_eq_true]
  refine iAny_seq sq fun chk hchk => ?_
  refine dc_seq (i := 1) (by show 1 < 2; decide) (hchk _ sq) hl ?_
  intro p hp
  try simp -dsimp -implicitDefEqProofs only [↓rds13, ↓rds14, ↓rds1, ↓rds2, ↓rds3, ↓rds4, ↓rds5, ↓rds6, ↓rds7, ↓rds8, ↓rds9, ↓rds10, ↓rds11, ↓rds12, List.set_cons_zero, List.set_cons_succ, ne_eq, not_false_eq_true, decide_eq_true_eq, Bool.or_true, Bool.or_false, Bool.true_or, Bool.false_or, Bool.and_true, Bool.true_and, Bool.and_false, Bool.false_and, Bool.not_true, Bool.not_false, reduceCtorEq, beq_self_eq_true, true_and, and_true, if_true, if_false, Bool.false_eq_true, keysS_len]
  refine len_seq (sq.up (Sub.put hp)) ?_
  try simp -dsimp -implicitDefEqProofs only [↓rds13, ↓rds14, ↓rds1, ↓rds2, ↓rds3, ↓rds4, ↓rds5, ↓rds6, ↓rds7, ↓rds8, ↓rds9, ↓rds10, ↓rds11, ↓rds12, List.set_cons_zero, List.set_cons_succ, ne_eq, not_false_eq_true, decide_eq_true_eq, Bool.or_true, Bool.or_false, Bool.true_or, Bool.false_or, Bool.and_true, Bool.true_and, Bool.and_false, Bool.false_and, Bool.not_true, Bool.not_false, reduceCtorEq, beq_self_eq_true, true_and, and_true, if_true, if_false, Bool.false_eq_true]
  refine finI (Sub.put hp) ?_
  rw [show decide (((dd ws).length : Int) < (ws.length : Int)) = !decide ws.Nodup from ?_]
  · exact q
  · rw [← decide_not]
    exact decide_eq_decide.mpr ((by omega : ((dd ws).length : Int) < (ws.length : Int) ↔ (dd ws).length < ws.length).trans (len_dd_lt ws))
theorem bk_in {kind : Str} (hk : kind ∈ kds) : ∀ w ∈ wsL kind, bkF kind w ∈ wsL kind ∧ mrF kind w ∈ wsL kind := by
  rcases kds_or hk with rfl | rfl | rfl <;> decide +kernel
end DL
/-! DLac: lots judged, joined, told back -/
namespace DL
open PySem L2
/-! ### values that a law draws -/
def Kn (h : Hd) : D → Prop
  | .v (.int _) => True
  | .v (.bl _) => True
  | .v .non => True
  | .v (.str _) => True
  | .v (.ref a) => ∃ xs, h a = some (.lst xs)
  | .t _ => True
  | _ => False
theorem Kn.up {h h' : Hd} {d : D} (k : Kn h d) (s : Sub h h') : Kn h' d := by
  unfold Kn at k ⊢
  split at k <;> try trivial
  obtain ⟨xs, e⟩ := k
  exact ⟨xs, s _ _ e⟩
theorem tyName_lst {h : Hd} {a : Addr} {xs : List D} (e : h a = some (.lst xs)) : tyName (.v (.ref a)) h = some "list" := by
  show (match h a with
    | some (.lst _) => some "list"
    | some (.dk _) => some "dict"
    | some (.dt _) => some "dict"
    | _ => none) = _
  rw [e]
def isS : D → Bool
  | .v (.str _) => true
  | _ => false
theorem isS_sD {d : D} (h : isS d = true) : ∃ z, d = sD z := by
  unfold isS at h
  split at h
  · exact ⟨_, rfl⟩
  · cases h
theorem tyName_str {h : Hd} {d : D} (k : Kn h d) : ∃ m, tyName d h = some m ∧ subTy m "str" = isS d := by
  unfold Kn at k
  split at k
  · exact ⟨_, rfl, (by show subTy "int" "str" = false; decide)⟩
  · exact ⟨_, rfl, (by show subTy "bool" "str" = false; decide)⟩
  · exact ⟨_, rfl, by decide⟩
  · exact ⟨_, rfl, (by show subTy "str" "str" = true; decide)⟩
  · obtain ⟨xs, e⟩ := k
    exact ⟨"list", tyName_lst e, (by show subTy "list" "str" = false; decide)⟩
  · exact ⟨_, rfl, (by show subTy "tuple" "str" = false; decide)⟩
  · exact k.elim
def isTp : D → Bool
  | .t _ => true
  | _ => false
theorem tyName_tup {h : Hd} {d : D} (k : Kn h d) : ∃ m, tyName d h = some m ∧ subTy m "tuple" = isTp d := by
  unfold Kn at k
  split at k
  · exact ⟨_, rfl, (by show subTy "int" "tuple" = false; decide)⟩
  · exact ⟨_, rfl, (by show subTy "bool" "tuple" = false; decide)⟩
  · exact ⟨_, rfl, by decide⟩
  · exact ⟨_, rfl, (by show subTy "str" "tuple" = false; decide)⟩
  · obtain ⟨xs, e⟩ := k
    exact ⟨"list", tyName_lst e, (by show subTy "list" "tuple" = false; decide)⟩
  · exact ⟨_, rfl, (by show subTy "tuple" "tuple" = true; decide)⟩
  · exact k.elim
theorem isi_str {h : Hd} {d : D} {Q : KD} (k : Kn h d) (q : Q (.v (.bl (isS d))) h) : cIsi [d, .v (.ty "str")] h Q := by
  obtain ⟨m, e1, e2⟩ := tyName_str k
  rw [cIsi_s, e1, mO_some, e2]
  exact ⟨by decide, q⟩
theorem isi_tup {h : Hd} {d : D} {Q : KD} (k : Kn h d) (q : Q (.v (.bl (isTp d))) h) : cIsi [d, .v (.ty "tuple")] h Q := by
  obtain ⟨m, e1, e2⟩ := tyName_tup k
  rw [cIsi_s, e1, mO_some, e2]
  exact ⟨by decide, q⟩
theorem strsD_all : ∀ {xs : List D}, xs.all isS = true → ∃ ws : List Str, xs = ws.map sD
  | [], _ => ⟨[], rfl⟩
  | x :: r, h => by
    rw [List.all_cons, Bool.and_eq_true] at h
    obtain ⟨z, rfl⟩ := isS_sD h.1
    obtain ⟨ws, rfl⟩ := strsD_all h.2
    exact ⟨z :: ws, rfl⟩
theorem strsD_not : ∀ {xs : List D}, xs.all isS = false → strsD xs = none
  | [], h => by cases h
  | .v (.str z) :: r, h => by
    have h : r.all isS = false := by rw [List.all_cons] at h; simpa [isS] using h
    unfold strsD
    rw [strsD_not h]
  | .v .non :: _, _ => rfl
  | .v (.bl _) :: _, _ => rfl
  | .v (.int _) :: _, _ => rfl
  | .v (.byt _) :: _, _ => rfl
  | .v (.flt _) :: _, _ => rfl
  | .v (.ref _) :: _, _ => rfl
  | .v (.ty _) :: _, _ => rfl
  | .t _ :: _, _ => rfl
  | .k _ :: _, _ => rfl
theorem fm_pos (P : D → Bool) : ∀ l : List D, decide (((l.filterMap fun x => if P x then none else some x).length : Int) > 0) = !l.all P
  | [] => rfl
  | x :: r => by
    rw [List.filterMap_cons, List.all_cons]
    by_cases c : P x = true
    · rw [if_pos c, c, Bool.true_and]
      exact fm_pos P r
    · rw [if_neg c, Bool.eq_false_iff.mpr c, Bool.false_and]
      simp
theorem eqDs_sD : ∀ ws vs : List Str, eqDs (ws.map sD) (vs.map sD) = decide (ws = vs)
  | [], [] => by simp [eqDs]
  | [], _ :: _ => by simp [eqDs]
  | _ :: _, [] => by simp [eqDs]
  | a :: r, b :: s => by
    rw [List.map_cons, List.map_cons, eqDs, eqDs_sD r s]
    have e : eqD (sD a) (sD b) = decide (a = b) := by unfold sD eqD; exact eqV_str
    rw [e]
    by_cases c : a = b <;> by_cases c2 : r = s <;> simp [c, c2]
theorem eqD_sD (ws vs : List Str) : eqD (.t (ws.map sD)) (.t (vs.map sD)) = decide (ws = vs) := by
  unfold eqD
  exact eqDs_sD ws vs
theorem plDs_sD {n : Nat} : ∀ ws : List Str, plDs n (ws.map sD) = true
  | [] => by simp [plDs]
  | a :: r => by
    rw [List.map_cons, plDs, plDs_sD r]
    unfold sD
    rw [plD_v]
    rfl
theorem plD_sD {n : Nat} (ws : List Str) : plD (n + 1) (.t (ws.map sD)) = true := by
  unfold plD
  exact plDs_sD ws
def selS (P : Str → Bool) : D → Option D
  | .v (.str w) => if P w = true then some (sD w) else none
  | _ => none
theorem selS_map (P : Str → Bool) : ∀ ws : List Str, (ws.map sD).filterMap (selS P) = (ws.filter P).map sD
  | [] => rfl
  | w :: r => by
    rw [List.map_cons, List.filterMap_cons, List.filter_cons, selS_map P r]
    have e : selS P (sD w) = if P w = true then some (sD w) else none := rfl
    rw [e]
    by_cases c : P w = true
    · rw [if_pos c, if_pos c, List.map_cons]
    · rw [if_neg c, if_neg c]
theorem gS_same : ∀ (σ : Sd) (i : Nat) (d : D), i < σ.length → gS (sS σ i d) i = some d
  | [], i, d, h => absurd h (Nat.not_lt_zero _)
  | a :: r, 0, d, h => rfl
  | a :: r, i + 1, d, h => gS_same r i d (Nat.lt_of_succ_lt_succ h)
theorem gS_ne : ∀ (σ : Sd) (i j : Nat) (d : D), i ≠ j → gS (sS σ i d) j = gS σ j
  | [], i, j, d, h => rfl
  | a :: r, 0, 0, d, h => absurd rfl h
  | a :: r, 0, j + 1, d, h => rfl
  | a :: r, i + 1, 0, d, h => rfl
  | a :: r, i + 1, j + 1, d, h => gS_ne r i j d (fun e => h (by rw [e]))
theorem fm_selS (P : Str → Bool) (ws : List Str) : decide (0 < ((((ws.filter P).map sD).length : Nat) : Int)) = ws.any P := by
  rw [List.length_map]
  by_cases c : ws.any P = true
  · rw [c]
    obtain ⟨w, hw, hp⟩ := List.any_eq_true.mp c
    have : 0 < (ws.filter P).length := List.length_pos_of_mem (List.mem_filter.mpr ⟨hw, hp⟩)
    exact decide_eq_true (by omega)
  · rw [Bool.not_eq_true] at c
    rw [c]
    have : ws.filter P = [] := List.filter_eq_nil_iff.mpr fun w hw hp => by
      have := List.any_eq_false.mp c w hw
      exact this hp
    rw [this]
    rfl
/-- is this a lot? -/
def lotT (kind : Str) (xs : List D) : Bool := match strsD xs with
  | some ws => (ws.all fun w => decide (w ∈ wsL kind)) && decide (ordL kind ws = ws)
  | none => false
def lotB (kind : Str) : D → Bool
  | .t xs => lotT kind xs
  | _ => false
theorem lotB_sD (kind : Str) (ws : List Str) : lotB kind (.t (ws.map sD)) = ((ws.all fun w => decide (w ∈ wsL kind)) && decide (ordL kind ws = ws)) := by
  show lotT _ _ = _
  unfold lotT
  rw [strsD_sD]
theorem lotB_not {kind : Str} {xs : List D} (h : xs.all isS = false) : lotB kind (.t xs) = false := by
  show lotT _ _ = _
  unfold lotT
  rw [strsD_not h]
def sp_is_lot : SpD := fun ds h Q _ => ds.length = 2 ∧ ∃ (kind : Str) (d : D), ds = [.v (.str kind), d] ∧ kind ∈ kds ∧ Kn h d ∧ (∀ xs, d = .t xs → xs.length ≤ 1000 ∧ ∀ x ∈ xs, Kn h x ∧ ∀ z, x = sD z → z.length ≤ 1000) ∧ Q (.v (.bl (lotB kind d))) h
def rd_is_lot (E : ER) : SD :=
  dSeq (dIfS (dOr (dNot (dTest (dCB cIsi (dCons (dVar 1) (dCons (dC (.v (.ty "tuple"))) (dNil)))))) (dTest (d2 pGt (dCB cLen (dCons (dLc (iAnyD (dVar 1)) (nG 2) (dNot (dTest (dCB cIsi (dCons (dVar 2) (dCons (dC (.v (.ty "str"))) (dNil)))))) (dVar 2) [2]) (dNil))) (dC (.v (.int 0)))))) (dRet (dC (.v (.bl false)))) (dNext))
  (dSeq (dIfS (dOr (dTest (d2 pGt (dCB cLen (dCons (dLc (iAnyD (dVar 1)) (nG 2) (dNot (dTest (dCall sp_is_way E0d (dCons (dVar 0) (dCons (dVar 2) (dNil)))))) (dVar 2) [2]) (dNil))) (dC (.v (.int 0))))) (dTest (dCall sp_has_doubles E (dCons (dVar 1) (dNil))))) (dRet (dC (.v (.bl false)))) (dNext))
  (dRet (d2 pEqA (dVar 1) (dCall sp_ordered E (dCons (dVar 0) (dCons (dVar 1) (dNil)))))))
abbrev N_is_lot : List Str := ["kind", "value", "word"]
theorem ok_is_lot : ∀ ds h Q E, sp_is_lot ds h Q E → rd_is_lot (fun x _ h' => E x h') (fin Q) (startD N_is_lot ds) h := by
  rintro ds h Q E ⟨_, kind, d, rfl, hk, kn, hx, q⟩
  show rd_is_lot _ _ [some (.v (.str kind)), some d, none] h
  unfold rd_is_lot
  obtain ⟨m, e1, e2⟩ := tyName_tup kn
  by_cases ht : isTp d = true
  · obtain ⟨xs, rfl⟩ : ∃ xs, d = .t xs := by
      unfold isTp at ht
      split at ht
      · exact ⟨_, rfl⟩
      · cases ht
    obtain ⟨hl, hx⟩ := hx xs rfl
    try simp -dsimp -implicitDefEqProofs only [↓rds13, ↓rds14, ↓rds1, ↓rds2, ↓rds3, ↓rds4, ↓rds5, ↓rds6, ↓rds7, ↓rds8, ↓rds9, ↓rds10, ↓rds11, ↓rds12, List.set_cons_zero, List.set_cons_succ, ne_eq, not_false_eq_true, decide_eq_true_eq, Bool.or_true, Bool.or_false, Bool.true_or, Bool.false_or, Bool.and_true, Bool.true_and, Bool.and_false, Bool.false_and, Bool.not_true, Bool.not_false, reduceCtorEq, beq_self_eq_true, true_and, and_true, if_true, if_false, Bool.false_eq_true, e1, e2, ht]
    refine cmp_of (fun x => if isS x then none else some x) trivial (by omega) ?_ ?_
    · intro x hx' S N h1 h2
      obtain ⟨m, f1, f2⟩ := tyName_str (hx x hx').1
      try simp -dsimp -implicitDefEqProofs only [↓rds13, ↓rds14, ↓rds1, ↓rds2, ↓rds3, ↓rds4, ↓rds5, ↓rds6, ↓rds7, ↓rds8, ↓rds9, ↓rds10, ↓rds11, ↓rds12, List.set_cons_zero, List.set_cons_succ, ne_eq, not_false_eq_true, decide_eq_true_eq, Bool.or_true, Bool.or_false, Bool.true_or, Bool.false_or, Bool.and_true, Bool.true_and, Bool.and_false, Bool.false_and, Bool.not_true, Bool.not_false, reduceCtorEq, beq_self_eq_true, true_and, and_true, if_true, if_false, Bool.false_eq_true, f1, f2]
      refine dIte_by (fun c => ?_) fun c => ?_
      · try simp -dsimp -implicitDefEqProofs only [↓rds13, ↓rds14, ↓rds1, ↓rds2, ↓rds3, ↓rds4, ↓rds5, ↓rds6, ↓rds7, ↓rds8, ↓rds9, ↓rds10, ↓rds11, ↓rds12, List.set_cons_zero, List.set_cons_succ, ne_eq, not_false_eq_true, decide_eq_true_eq, Bool.or_true, Bool.or_false, Bool.true_or, Bool.false_or, Bool.and_true, Bool.true_and, Bool.and_false, Bool.false_and, Bool.not_true, Bool.not_false, reduceCtorEq, beq_self_eq_true, true_and, and_true, if_true, if_false, Bool.false_eq_true]
        exact h1 x (by simp only [Bool.not_eq_true'] at c; rw [c]; rfl)
      · exact h2 (by simp only [Bool.not_eq_true', Bool.not_eq_false] at c; rw [c]; rfl)
    intro p hp
    try simp -dsimp -implicitDefEqProofs only [↓rds13, ↓rds14, ↓rds1, ↓rds2, ↓rds3, ↓rds4, ↓rds5, ↓rds6, ↓rds7, ↓rds8, ↓rds9, ↓rds10, ↓rds11, ↓rds12, List.set_cons_zero, List.set_cons_succ, ne_eq, not_false_eq_true, decide_eq_true_eq, Bool.or_true, Bool.or_false, Bool.true_or, Bool.false_or, Bool.and_true, Bool.true_and, Bool.and_false, Bool.false_and, Bool.not_true, Bool.not_false, reduceCtorEq, beq_self_eq_true, true_and, and_true, if_true, if_false, Bool.false_eq_true]
    have fp := fm_pos isS xs
    refine dIte_by (fun c => ?_) fun c => ?_
    · try simp -dsimp -implicitDefEqProofs only [↓rds13, ↓rds14, ↓rds1, ↓rds2, ↓rds3, ↓rds4, ↓rds5, ↓rds6, ↓rds7, ↓rds8, ↓rds9, ↓rds10, ↓rds11, ↓rds12, List.set_cons_zero, List.set_cons_succ, ne_eq, not_false_eq_true, decide_eq_true_eq, Bool.or_true, Bool.or_false, Bool.true_or, Bool.false_or, Bool.and_true, Bool.true_and, Bool.and_false, Bool.false_and, Bool.not_true, Bool.not_false, reduceCtorEq, beq_self_eq_true, true_and, and_true, if_true, if_false, Bool.false_eq_true]
      have fs : xs.all isS = false := by
        rw [decide_eq_true (by omega)] at fp
        simpa using fp.symm
      rw [lotB_not fs] at q
      exact finI (Sub.put hp) q
    have fs : xs.all isS = true := by
      rw [decide_eq_false (by omega)] at fp
      simpa using fp.symm
    obtain ⟨ws, rfl⟩ := strsD_all fs
    rw [lotB_sD] at q
    clear c fp
    have sub1 : Sub h (put h p (.lst ((ws.map sD).filterMap fun x => if isS x = true then none else some x))) := Sub.put hp
    generalize put h p (.lst ((ws.map sD).filterMap fun x => if isS x = true then none else some x)) = h1 at sub1
    rw [List.length_map] at hl
    try simp -dsimp -implicitDefEqProofs only [↓rds13, ↓rds14, ↓rds1, ↓rds2, ↓rds3, ↓rds4, ↓rds5, ↓rds6, ↓rds7, ↓rds8, ↓rds9, ↓rds10, ↓rds11, ↓rds12, List.set_cons_zero, List.set_cons_succ, ne_eq, not_false_eq_true, decide_eq_true_eq, Bool.or_true, Bool.or_false, Bool.true_or, Bool.false_or, Bool.and_true, Bool.true_and, Bool.and_false, Bool.false_and, Bool.not_true, Bool.not_false, reduceCtorEq, beq_self_eq_true, true_and, and_true, if_true, if_false, Bool.false_eq_true]
    refine cmp_of (selS fun w => !decide (w ∈ wsL kind)) trivial (by rw [List.length_map]; omega) ?_ ?_
    · intro x hx' S N h1 h2
      obtain ⟨w, hw, rfl⟩ := List.mem_map.mp hx'
      have h1 : ∀ y, (if (!decide (w ∈ wsL kind)) = true then some (sD w) else none) = some y → S y _ := h1
      have h2 : (if (!decide (w ∈ wsL kind)) = true then some (sD w) else none) = none → N _ := h2
      try simp -dsimp -implicitDefEqProofs only [↓rds13, ↓rds14, ↓rds1, ↓rds2, ↓rds3, ↓rds4, ↓rds5, ↓rds6, ↓rds7, ↓rds8, ↓rds9, ↓rds10, ↓rds11, ↓rds12, List.set_cons_zero, List.set_cons_succ, ne_eq, not_false_eq_true, decide_eq_true_eq, Bool.or_true, Bool.or_false, Bool.true_or, Bool.false_or, Bool.and_true, Bool.true_and, Bool.and_false, Bool.false_and, Bool.not_true, Bool.not_false, reduceCtorEq, beq_self_eq_true, true_and, and_true, if_true, if_false, Bool.false_eq_true, sD]
      refine cl_i ⟨rfl, kind, w, rfl, hk, (hx _ hx').2 w rfl, ?_⟩
      try simp -dsimp -implicitDefEqProofs only [↓rds13, ↓rds14, ↓rds1, ↓rds2, ↓rds3, ↓rds4, ↓rds5, ↓rds6, ↓rds7, ↓rds8, ↓rds9, ↓rds10, ↓rds11, ↓rds12, List.set_cons_zero, List.set_cons_succ, ne_eq, not_false_eq_true, decide_eq_true_eq, Bool.or_true, Bool.or_false, Bool.true_or, Bool.false_or, Bool.and_true, Bool.true_and, Bool.and_false, Bool.false_and, Bool.not_true, Bool.not_false, reduceCtorEq, beq_self_eq_true, true_and, and_true, if_true, if_false, Bool.false_eq_true, sD]
      refine dIte_by (fun c => ?_) fun c => ?_
      · try simp -dsimp -implicitDefEqProofs only [↓rds13, ↓rds14, ↓rds1, ↓rds2, ↓rds3, ↓rds4, ↓rds5, ↓rds6, ↓rds7, ↓rds8, ↓rds9, ↓rds10, ↓rds11, ↓rds12, List.set_cons_zero, List.set_cons_succ, ne_eq, not_false_eq_true, decide_eq_true_eq, Bool.or_true, Bool.or_false, Bool.true_or, Bool.false_or, Bool.and_true, Bool.true_and, Bool.and_false, Bool.false_and, Bool.not_true, Bool.not_false, reduceCtorEq, beq_self_eq_true, true_and, and_true, if_true, if_false, Bool.false_eq_true, sD]
        exact h1 _ (if_pos (by simpa using c))
      · exact h2 (if_neg (by simpa using c))
    rw [selS_map]
    intro r hr
    try simp -dsimp -implicitDefEqProofs only [↓rds13, ↓rds14, ↓rds1, ↓rds2, ↓rds3, ↓rds4, ↓rds5, ↓rds6, ↓rds7, ↓rds8, ↓rds9, ↓rds10, ↓rds11, ↓rds12, List.set_cons_zero, List.set_cons_succ, ne_eq, not_false_eq_true, decide_eq_true_eq, Bool.or_true, Bool.or_false, Bool.true_or, Bool.false_or, Bool.and_true, Bool.true_and, Bool.and_false, Bool.false_and, Bool.not_true, Bool.not_false, reduceCtorEq, beq_self_eq_true, true_and, and_true, if_true, if_false, Bool.false_eq_true]
    have fa := fm_selS (fun w => !decide (w ∈ wsL kind)) ws
    refine dIte_by (fun c => ?_) fun c => ?_
    · rw [decide_eq_true c] at fa
      have : (ws.all fun w => decide (w ∈ wsL kind)) = false := by
        obtain ⟨w, hw, hp⟩ := List.any_eq_true.mp fa.symm
        refine List.all_eq_false.mpr ⟨w, hw, ?_⟩
        simpa using hp
      rw [this, Bool.false_and] at q
      try simp -dsimp -implicitDefEqProofs only [↓rds13, ↓rds14, ↓rds1, ↓rds2, ↓rds3, ↓rds4, ↓rds5, ↓rds6, ↓rds7, ↓rds8, ↓rds9, ↓rds10, ↓rds11, ↓rds12, List.set_cons_zero, List.set_cons_succ, ne_eq, not_false_eq_true, decide_eq_true_eq, Bool.or_true, Bool.or_false, Bool.true_or, Bool.false_or, Bool.and_true, Bool.true_and, Bool.and_false, Bool.false_and, Bool.not_true, Bool.not_false, reduceCtorEq, beq_self_eq_true, true_and, and_true, if_true, if_false, Bool.false_eq_true]
      exact finI (sub1.trans (Sub.put hr)) q
    rw [decide_eq_false c] at fa
    have al : ∀ w ∈ ws, w ∈ wsL kind := fun w hw => by
      have := List.any_eq_false.mp fa.symm w hw
      simpa using this
    have : (ws.all fun w => decide (w ∈ wsL kind)) = true := List.all_eq_true.mpr fun w hw => decide_eq_true (al w hw)
    rw [this, Bool.true_and] at q
    try simp -dsimp -implicitDefEqProofs only [↓rds13, ↓rds14, ↓rds1, ↓rds2, ↓rds3, ↓rds4, ↓rds5, ↓rds6, ↓rds7, ↓rds8, ↓rds9, ↓rds10, ↓rds11, ↓rds12, List.set_cons_zero, List.set_cons_succ, ne_eq, not_false_eq_true, decide_eq_true_eq, Bool.or_true, Bool.or_false, Bool.true_or, Bool.false_or, Bool.and_true, Bool.true_and, Bool.and_false, Bool.false_and, Bool.not_true, Bool.not_false, reduceCtorEq, beq_self_eq_true, true_and, and_true, if_true, if_false, Bool.false_eq_true]
    refine cl_i ⟨rfl, _, ws, rfl, .inl rfl, hl, ?_⟩
    try simp -dsimp -implicitDefEqProofs only [↓rds13, ↓rds14, ↓rds1, ↓rds2, ↓rds3, ↓rds4, ↓rds5, ↓rds6, ↓rds7, ↓rds8, ↓rds9, ↓rds10, ↓rds11, ↓rds12, List.set_cons_zero, List.set_cons_succ, ne_eq, not_false_eq_true, decide_eq_true_eq, Bool.or_true, Bool.or_false, Bool.true_or, Bool.false_or, Bool.and_true, Bool.true_and, Bool.and_false, Bool.false_and, Bool.not_true, Bool.not_false, reduceCtorEq, beq_self_eq_true, true_and, and_true, if_true, if_false, Bool.false_eq_true]
    refine dIte_by (fun c => ?_) fun c => ?_
    · have nd : ¬ ws.Nodup := by simpa using c
      have : ¬ ordL kind ws = ws := fun e => nd (by rw [← e]; exact (ws_nodup hk).sublist List.filter_sublist)
      rw [decide_eq_false this] at q
      try simp -dsimp -implicitDefEqProofs only [↓rds13, ↓rds14, ↓rds1, ↓rds2, ↓rds3, ↓rds4, ↓rds5, ↓rds6, ↓rds7, ↓rds8, ↓rds9, ↓rds10, ↓rds11, ↓rds12, List.set_cons_zero, List.set_cons_succ, ne_eq, not_false_eq_true, decide_eq_true_eq, Bool.or_true, Bool.or_false, Bool.true_or, Bool.false_or, Bool.and_true, Bool.true_and, Bool.and_false, Bool.false_and, Bool.not_true, Bool.not_false, reduceCtorEq, beq_self_eq_true, true_and, and_true, if_true, if_false, Bool.false_eq_true]
      exact finI (sub1.trans (Sub.put hr)) q
    try simp -dsimp -implicitDefEqProofs only [↓rds13, ↓rds14, ↓rds1, ↓rds2, ↓rds3, ↓rds4, ↓rds5, ↓rds6, ↓rds7, ↓rds8, ↓rds9, ↓rds10, ↓rds11, ↓rds12, List.set_cons_zero, List.set_cons_succ, ne_eq, not_false_eq_true, decide_eq_true_eq, Bool.or_true, Bool.or_false, Bool.true_or, Bool.false_or, Bool.and_true, Bool.true_and, Bool.and_false, Bool.false_and, Bool.not_true, Bool.not_false, reduceCtorEq, beq_self_eq_true, true_and, and_true, if_true, if_false, Bool.false_eq_true]
    refine cl_i ⟨rfl, kind, _, ws, h, rfl, hk, .inl rfl, al, hl, sub1.trans (Sub.put hr), ?_⟩
    try simp -dsimp -implicitDefEqProofs only [↓rds13, ↓rds14, ↓rds1, ↓rds2, ↓rds3, ↓rds4, ↓rds5, ↓rds6, ↓rds7, ↓rds8, ↓rds9, ↓rds10, ↓rds11, ↓rds12, List.set_cons_zero, List.set_cons_succ, ne_eq, not_false_eq_true, decide_eq_true_eq, Bool.or_true, Bool.or_false, Bool.true_or, Bool.false_or, Bool.and_true, Bool.true_and, Bool.and_false, Bool.false_and, Bool.not_true, Bool.not_false, reduceCtorEq, beq_self_eq_true, true_and, and_true, if_true, if_false, Bool.false_eq_true]
    refine ⟨by rw [plD_sD, plD_sD]; rfl, ?_⟩
    rw [eqD_sD, show decide (ws = ordL kind ws) = decide (ordL kind ws = ws) from decide_eq_decide.mpr ⟨Eq.symm, Eq.symm⟩]
    exact finR q
  · rw [Bool.not_eq_true] at ht
    have : lotB kind d = false := by
      unfold lotB
      split
      · cases ht
      · rfl
    rw [this] at q
    try simp -dsimp -implicitDefEqProofs only [↓rds13, ↓rds14, ↓rds1, ↓rds2, ↓rds3, ↓rds4, ↓rds5, ↓rds6, ↓rds7, ↓rds8, ↓rds9, ↓rds10, ↓rds11, ↓rds12, List.set_cons_zero, List.set_cons_succ, ne_eq, not_false_eq_true, decide_eq_true_eq, Bool.or_true, Bool.or_false, Bool.true_or, Bool.false_or, Bool.and_true, Bool.true_and, Bool.and_false, Bool.false_and, Bool.not_true, Bool.not_false, reduceCtorEq, beq_self_eq_true, true_and, and_true, if_true, if_false, Bool.false_eq_true, e1, e2, ht]
    exact finR q
def sp_lot_of : SpD := fun ds h Q E => ds.length = 2 ∧ ∃ (kind : Str) (d : D) (ws : List Str) (h0 : Hd), ds = [.v (.str kind), d] ∧ kind ∈ kds ∧ Seq h d ws ∧ ws.length ≤ 1000 ∧ (∀ w ∈ ws, w.length ≤ 1000) ∧ Sub h0 h ∧
  (∀ w, ws.find? (fun w => !decide (w ∈ wsL kind)) = some w → E ⟨"BadWay", [("way", .v (.str w))]⟩ h) ∧ (ws.find? (fun w => !decide (w ∈ wsL kind)) = none → Q (.t ((ordL kind ws).map sD)) h0)
def rd_lot_of (E : ER) : SD :=
  dSeq (dFor (iAnyD (dVar 1)) (nG 2) (dDrop (dCall sp_check_way E (dCons (dVar 0) (dCons (dVar 2) (dNil))))))
  (dRet (dCall sp_ordered E (dCons (dVar 0) (dCons (dVar 1) (dNil)))))
abbrev N_lot_of : List Str := ["kind", "words", "word"]
theorem ok_lot_of : ∀ ds h Q E, sp_lot_of ds h Q E → rd_lot_of (fun x _ h' => E x h') (fin Q) (startD N_lot_of ds) h := by
  rintro ds h Q E ⟨_, kind, d, ws, h0, rfl, hk, sq, hl, hz, sb, ex, q⟩
  show rd_lot_of _ _ [some (.v (.str kind)), some d, none] h
  unfold rd_lot_of
  try simp -dsimp -implicitDefEqProofs only [↓rds13, ↓rds14, ↓rds1, ↓rds2, ↓rds3, ↓rds4, ↓rds5, ↓rds6, ↓rds7, ↓rds8, ↓rds9, ↓rds10, ↓rds11, ↓rds12, List.set_cons_zero, List.set_cons_succ, ne_eq, not_false_eq_true, decide_eq_true_eq, Bool.or_true, Bool.or_false, Bool.true_or, Bool.false_or, Bool.and_true, Bool.true_and, Bool.and_false, Bool.false_and, Bool.not_true, Bool.not_false, reduceCtorEq, beq_self_eq_true, true_and, and_true, if_true, if_false, Bool.false_eq_true]
  refine iAny_seq sq fun chk hchk => ?_
  refine loop_of (fun i σ h' => h' = h ∧ (ws.take i).find? (fun w => !decide (w ∈ wsL kind)) = none ∧ ∃ v, σ = [some (.v (.str kind)), some d, v]) ⟨rfl, rfl, _, rfl⟩ (fun i σ h' _ ⟨e, _⟩ => by rw [e]; exact hchk _ sq) ?_ ?_
  · rintro i x σ h' hx ⟨rfl, nf, v, rfl⟩ N hN
    obtain ⟨w, hw, rfl⟩ := sD_get hx
    have ww := List.mem_of_getElem? hw
    try simp -dsimp -implicitDefEqProofs only [↓rds13, ↓rds14, ↓rds1, ↓rds2, ↓rds3, ↓rds4, ↓rds5, ↓rds6, ↓rds7, ↓rds8, ↓rds9, ↓rds10, ↓rds11, ↓rds12, List.set_cons_zero, List.set_cons_succ, ne_eq, not_false_eq_true, decide_eq_true_eq, Bool.or_true, Bool.or_false, Bool.true_or, Bool.false_or, Bool.and_true, Bool.true_and, Bool.and_false, Bool.false_and, Bool.not_true, Bool.not_false, reduceCtorEq, beq_self_eq_true, true_and, and_true, if_true, if_false, Bool.false_eq_true, sD]
    refine cl_i ⟨rfl, kind, w, rfl, hk, hz w ww, fun hin => ?_, fun hin => ?_⟩
    · try simp -dsimp -implicitDefEqProofs only [↓rds13, ↓rds14, ↓rds1, ↓rds2, ↓rds3, ↓rds4, ↓rds5, ↓rds6, ↓rds7, ↓rds8, ↓rds9, ↓rds10, ↓rds11, ↓rds12, List.set_cons_zero, List.set_cons_succ, ne_eq, not_false_eq_true, decide_eq_true_eq, Bool.or_true, Bool.or_false, Bool.true_or, Bool.false_or, Bool.and_true, Bool.true_and, Bool.and_false, Bool.false_and, Bool.not_true, Bool.not_false, reduceCtorEq, beq_self_eq_true, true_and, and_true, if_true, if_false, Bool.false_eq_true]
      refine hN _ _ ⟨rfl, ?_, _, rfl⟩
      rw [List.take_add_one, hw, List.find?_append, nf]
      simp [hin]
    · refine ex w ?_
      rw [← List.take_append_drop (i + 1) ws, List.take_add_one, hw, List.find?_append, List.find?_append, nf]
      simp [hin]
  · rintro σ h' ⟨rfl, nf, v, rfl⟩
    rw [show ws.take (ws.map sD).length = ws from List.take_of_length_le (by rw [List.length_map]; exact Nat.le_refl _)] at nf
    try simp -dsimp -implicitDefEqProofs only [↓rds13, ↓rds14, ↓rds1, ↓rds2, ↓rds3, ↓rds4, ↓rds5, ↓rds6, ↓rds7, ↓rds8, ↓rds9, ↓rds10, ↓rds11, ↓rds12, List.set_cons_zero, List.set_cons_succ, ne_eq, not_false_eq_true, decide_eq_true_eq, Bool.or_true, Bool.or_false, Bool.true_or, Bool.false_or, Bool.and_true, Bool.true_and, Bool.and_false, Bool.false_and, Bool.not_true, Bool.not_false, reduceCtorEq, beq_self_eq_true, true_and, and_true, if_true, if_false, Bool.false_eq_true]
    refine cl_i ⟨rfl, kind, d, ws, h0, rfl, hk, sq, fun w hw => ?_, hl, sb, finR (q nf)⟩
    have := List.find?_eq_none.mp nf w hw
    simpa using this
def sp_joined_lots : SpD := fun ds h Q _ => ds.length = 3 ∧ ∃ (kind : Str) (a b : List Str), ds = [.v (.str kind), .t (a.map sD), .t (b.map sD)] ∧ kind ∈ kds ∧ (∀ w ∈ a ++ b, w ∈ wsL kind) ∧ (a ++ b).length ≤ 1000 ∧ Q (.t ((ordL kind (a ++ b)).map sD)) h
def rd_joined_lots (E : ER) : SD :=
  dRet (dCall sp_ordered E (dCons (dVar 0) (dCons (d2 pAdd (dVar 1) (dVar 2)) (dNil))))
abbrev N_joined_lots : List Str := ["kind", "first", "second"]
theorem ok_joined_lots : ∀ ds h Q E, sp_joined_lots ds h Q E → rd_joined_lots (fun x _ h' => E x h') (fin Q) (startD N_joined_lots ds) h := by
  rintro ds h Q E ⟨_, kind, a, b, rfl, hk, hw, hl, q⟩
  show rd_joined_lots _ _ [some (.v (.str kind)), some (.t (a.map sD)), some (.t (b.map sD))] h
  unfold rd_joined_lots
  try simp -dsimp -implicitDefEqProofs only [↓rds13, ↓rds14, ↓rds1, ↓rds2, ↓rds3, ↓rds4, ↓rds5, ↓rds6, ↓rds7, ↓rds8, ↓rds9, ↓rds10, ↓rds11, ↓rds12, List.set_cons_zero, List.set_cons_succ, ne_eq, not_false_eq_true, decide_eq_true_eq, Bool.or_true, Bool.or_false, Bool.true_or, Bool.false_or, Bool.and_true, Bool.true_and, Bool.and_false, Bool.false_and, Bool.not_true, Bool.not_false, reduceCtorEq, beq_self_eq_true, true_and, and_true, if_true, if_false, Bool.false_eq_true]
  have hz : (a.map sD).length + (b.map sD).length ≤ sizeLine := by
    rw [List.length_map, List.length_map]
    rw [List.length_append] at hl
    exact Nat.le_trans hl (by decide)
  refine ⟨hz, cl_i ⟨rfl, kind, _, a ++ b, h, rfl, hk, .inl (by rw [List.map_append]), hw, hl, Sub.refl h, ?_⟩⟩
  exact finR q
def sp_common : SpD := fun ds h Q _ => ds.length = 3 ∧ ∃ (kind : Str) (a b : List Str), ds = [.v (.str kind), .t (a.map sD), .t (b.map sD)] ∧ a.length ≤ 1000 ∧ b.length ≤ 1000 ∧ Q (.t ((a.filter fun w => decide (w ∈ b)).map sD)) h
def rd_common (E : ER) : SD :=
  dSeq (dAsg (dDc (iAnyD (dVar 2)) (nG 4) (dYes) (dVar 4) (dC (.v (.bl true))) [4]) (nG 3))
  (dRet (dCB cTuple (dCons (dLc (iAnyD (dVar 1)) (nG 4) (dTest (d2 pMem (dVar 4) (dVar 3))) (dVar 4) [4]) (dNil))))
abbrev N_common : List Str := ["kind", "first", "second", "inner", "way"]
/-- [text for text in row if text in inner], or not in -/
theorem cmp_keep {h : Hd} {ws : List Str} {chk : Hd → Prop} {i j : Nat} {y : D} {σ : Sd} {Q : List D → Hd → Prop} {b : BxC Q} {P : R2d} (p : Str → Bool) (hP : ∀ (w : Str) (Q : KD), Q (.v (.bl (p w))) h → P (.v (.str w)) y h Q) (hi : i < σ.length) (hj : gS σ j = some y) (ne : i ≠ j) (hc : chk h) (hl : ws.length ≤ 1000)
    (q : Q ((ws.filter p).map sD) h) : cmp (nG i) (dTest (d2 P (dVar i) (dVar j))) (dVar i) chk (ws.map sD) σ h Q b := by
  refine cmp_of (selS p) hc (by rw [List.length_map]; omega) ?_ (by rw [selS_map]; exact q)
  intro x hx S N h1 h2
  obtain ⟨w, hw, rfl⟩ := List.mem_map.mp hx
  have h1 : ∀ y, (if p w = true then some (sD w) else none) = some y → S y h := h1
  have h2 : (if p w = true then some (sD w) else none) = none → N h := h2
  try simp -dsimp -implicitDefEqProofs only [↓rds13, ↓rds14, ↓rds1, ↓rds2, ↓rds3, ↓rds4, ↓rds5, ↓rds6, ↓rds7, ↓rds8, ↓rds9, ↓rds10, ↓rds11, ↓rds12, List.set_cons_zero, List.set_cons_succ, ne_eq, not_false_eq_true, decide_eq_true_eq, Bool.or_true, Bool.or_false, Bool.true_or, Bool.false_or, Bool.and_true, Bool.true_and, Bool.and_false, Bool.false_and, Bool.not_true, Bool.not_false, reduceCtorEq, beq_self_eq_true, true_and, and_true, if_true, if_false, Bool.false_eq_true, sD, gS_same σ i (D.v (.str w)) hi, gS_ne σ i j (D.v (.str w)) ne, hj]
  refine hP w _ ?_
  try simp -dsimp -implicitDefEqProofs only [↓rds13, ↓rds14, ↓rds1, ↓rds2, ↓rds3, ↓rds4, ↓rds5, ↓rds6, ↓rds7, ↓rds8, ↓rds9, ↓rds10, ↓rds11, ↓rds12, List.set_cons_zero, List.set_cons_succ, ne_eq, not_false_eq_true, decide_eq_true_eq, Bool.or_true, Bool.or_false, Bool.true_or, Bool.false_or, Bool.and_true, Bool.true_and, Bool.and_false, Bool.false_and, Bool.not_true, Bool.not_false, reduceCtorEq, beq_self_eq_true, true_and, and_true, if_true, if_false, Bool.false_eq_true]
  refine dIte_by (fun c => ?_) fun c => ?_
  · try simp -dsimp -implicitDefEqProofs only [↓rds13, ↓rds14, ↓rds1, ↓rds2, ↓rds3, ↓rds4, ↓rds5, ↓rds6, ↓rds7, ↓rds8, ↓rds9, ↓rds10, ↓rds11, ↓rds12, List.set_cons_zero, List.set_cons_succ, ne_eq, not_false_eq_true, decide_eq_true_eq, Bool.or_true, Bool.or_false, Bool.true_or, Bool.false_or, Bool.and_true, Bool.true_and, Bool.and_false, Bool.false_and, Bool.not_true, Bool.not_false, reduceCtorEq, beq_self_eq_true, true_and, and_true, if_true, if_false, Bool.false_eq_true, sD, gS_same σ i (D.v (.str w)) hi]
    exact h1 _ (if_pos c)
  · exact h2 (if_neg c)
theorem ok_common : ∀ ds h Q E, sp_common ds h Q E → rd_common (fun x _ h' => E x h') (fin Q) (startD N_common ds) h := by
  rintro ds h Q E ⟨_, kind, a, b, rfl, ha, hb, q⟩
  show rd_common _ _ [some (.v (.str kind)), some (.t (a.map sD)), some (.t (b.map sD)), none, none] h
  unfold rd_common
  try simp -dsimp -implicitDefEqProofs only [↓rds13, ↓rds14, ↓rds1, ↓rds2, ↓rds3, ↓rds4, ↓rds5, ↓rds6, ↓rds7, ↓rds8, ↓rds9, ↓rds10, ↓rds11, ↓rds12, List.set_cons_zero, List.set_cons_succ, ne_eq, not_false_eq_true, decide_eq_true_eq, Bool.or_true, Bool.or_false, Bool.true_or, Bool.false_or, Bool.and_true, Bool.true_and, Bool.and_false, Bool.false_and, Bool.not_true, Bool.not_false, reduceCtorEq, beq_self_eq_true, true_and, and_true, if_true, if_false, Bool.false_eq_true]
  refine dc_seq (i := 4) (by show 4 < 5; decide) trivial hb ?_
  intro f hf
  try simp -dsimp -implicitDefEqProofs only [↓rds13, ↓rds14, ↓rds1, ↓rds2, ↓rds3, ↓rds4, ↓rds5, ↓rds6, ↓rds7, ↓rds8, ↓rds9, ↓rds10, ↓rds11, ↓rds12, List.set_cons_zero, List.set_cons_succ, ne_eq, not_false_eq_true, decide_eq_true_eq, Bool.or_true, Bool.or_false, Bool.true_or, Bool.false_or, Bool.and_true, Bool.true_and, Bool.and_false, Bool.false_and, Bool.not_true, Bool.not_false, reduceCtorEq, beq_self_eq_true, true_and, and_true, if_true, if_false, Bool.false_eq_true]
  refine cmp_keep (i := 4) (j := 3) (fun w => decide (w ∈ b)) (fun w Q q => ?_) (by show 4 < 5; decide) rfl (by decide) trivial ha ?_
  · try simp -dsimp -implicitDefEqProofs only [↓rds13, ↓rds14, ↓rds1, ↓rds2, ↓rds3, ↓rds4, ↓rds5, ↓rds6, ↓rds7, ↓rds8, ↓rds9, ↓rds10, ↓rds11, ↓rds12, List.set_cons_zero, List.set_cons_succ, ne_eq, not_false_eq_true, decide_eq_true_eq, Bool.or_true, Bool.or_false, Bool.true_or, Bool.false_or, Bool.and_true, Bool.true_and, Bool.and_false, Bool.false_and, Bool.not_true, Bool.not_false, reduceCtorEq, beq_self_eq_true, true_and, and_true, if_true, if_false, Bool.false_eq_true, valS_in, mem_dd]
    exact q
  intro p hp
  try simp -dsimp -implicitDefEqProofs only [↓rds13, ↓rds14, ↓rds1, ↓rds2, ↓rds3, ↓rds4, ↓rds5, ↓rds6, ↓rds7, ↓rds8, ↓rds9, ↓rds10, ↓rds11, ↓rds12, List.set_cons_zero, List.set_cons_succ, ne_eq, not_false_eq_true, decide_eq_true_eq, Bool.or_true, Bool.or_false, Bool.true_or, Bool.false_or, Bool.and_true, Bool.true_and, Bool.and_false, Bool.false_and, Bool.not_true, Bool.not_false, reduceCtorEq, beq_self_eq_true, true_and, and_true, if_true, if_false, Bool.false_eq_true]
  exact finI ((Sub.put hf).trans (Sub.put hp)) q
def sp_other_ways : SpD := fun ds h Q _ => ds.length = 2 ∧ ∃ (kind : Str) (a : List Str), ds = [.v (.str kind), .t (a.map sD)] ∧ kind ∈ kds ∧ a.length ≤ 1000 ∧ Q (.t (((wsL kind).filter fun w => !decide (w ∈ a)).map sD)) h
def rd_other_ways (E : ER) : SD :=
  dSeq (dAsg (dDc (iAnyD (dVar 1)) (nG 3) (dYes) (dVar 3) (dC (.v (.bl true))) [3]) (nG 2))
  (dRet (dCB cTuple (dCons (dLc (iAnyD (dCall sp_ways E (dCons (dVar 0) (dNil)))) (nG 3) (dTest (d2 pNotMem (dVar 3) (dVar 2))) (dVar 3) [3]) (dNil))))
abbrev N_other_ways : List Str := ["kind", "lot", "inner", "way"]
theorem ok_other_ways : ∀ ds h Q E, sp_other_ways ds h Q E → rd_other_ways (fun x _ h' => E x h') (fin Q) (startD N_other_ways ds) h := by
  rintro ds h Q E ⟨_, kind, a, rfl, hk, ha, q⟩
  show rd_other_ways _ _ [some (.v (.str kind)), some (.t (a.map sD)), none, none] h
  unfold rd_other_ways
  try simp -dsimp -implicitDefEqProofs only [↓rds13, ↓rds14, ↓rds1, ↓rds2, ↓rds3, ↓rds4, ↓rds5, ↓rds6, ↓rds7, ↓rds8, ↓rds9, ↓rds10, ↓rds11, ↓rds12, List.set_cons_zero, List.set_cons_succ, ne_eq, not_false_eq_true, decide_eq_true_eq, Bool.or_true, Bool.or_false, Bool.true_or, Bool.false_or, Bool.and_true, Bool.true_and, Bool.and_false, Bool.false_and, Bool.not_true, Bool.not_false, reduceCtorEq, beq_self_eq_true, true_and, and_true, if_true, if_false, Bool.false_eq_true]
  refine dc_seq (i := 3) (by show 3 < 4; decide) trivial ha ?_
  intro f hf
  try simp -dsimp -implicitDefEqProofs only [↓rds13, ↓rds14, ↓rds1, ↓rds2, ↓rds3, ↓rds4, ↓rds5, ↓rds6, ↓rds7, ↓rds8, ↓rds9, ↓rds10, ↓rds11, ↓rds12, List.set_cons_zero, List.set_cons_succ, ne_eq, not_false_eq_true, decide_eq_true_eq, Bool.or_true, Bool.or_false, Bool.true_or, Bool.false_or, Bool.and_true, Bool.true_and, Bool.and_false, Bool.false_and, Bool.not_true, Bool.not_false, reduceCtorEq, beq_self_eq_true, true_and, and_true, if_true, if_false, Bool.false_eq_true]
  refine cl_i ⟨rfl, kind, rfl, fun _ => ?_, fun n => absurd hk n⟩
  try simp -dsimp -implicitDefEqProofs only [↓rds13, ↓rds14, ↓rds1, ↓rds2, ↓rds3, ↓rds4, ↓rds5, ↓rds6, ↓rds7, ↓rds8, ↓rds9, ↓rds10, ↓rds11, ↓rds12, List.set_cons_zero, List.set_cons_succ, ne_eq, not_false_eq_true, decide_eq_true_eq, Bool.or_true, Bool.or_false, Bool.true_or, Bool.false_or, Bool.and_true, Bool.true_and, Bool.and_false, Bool.false_and, Bool.not_true, Bool.not_false, reduceCtorEq, beq_self_eq_true, true_and, and_true, if_true, if_false, Bool.false_eq_true]
  refine cmp_keep (i := 3) (j := 2) (fun w => !decide (w ∈ a)) (fun w Q q => ?_) (by show 3 < 4; decide) rfl (by decide) trivial (Nat.le_trans (ws_ne hk).2 (by decide)) ?_
  · try simp -dsimp -implicitDefEqProofs only [↓rds13, ↓rds14, ↓rds1, ↓rds2, ↓rds3, ↓rds4, ↓rds5, ↓rds6, ↓rds7, ↓rds8, ↓rds9, ↓rds10, ↓rds11, ↓rds12, List.set_cons_zero, List.set_cons_succ, ne_eq, not_false_eq_true, decide_eq_true_eq, Bool.or_true, Bool.or_false, Bool.true_or, Bool.false_or, Bool.and_true, Bool.true_and, Bool.and_false, Bool.false_and, Bool.not_true, Bool.not_false, reduceCtorEq, beq_self_eq_true, true_and, and_true, if_true, if_false, Bool.false_eq_true, valS_in, mem_dd]
    exact q
  intro p hp
  try simp -dsimp -implicitDefEqProofs only [↓rds13, ↓rds14, ↓rds1, ↓rds2, ↓rds3, ↓rds4, ↓rds5, ↓rds6, ↓rds7, ↓rds8, ↓rds9, ↓rds10, ↓rds11, ↓rds12, List.set_cons_zero, List.set_cons_succ, ne_eq, not_false_eq_true, decide_eq_true_eq, Bool.or_true, Bool.or_false, Bool.true_or, Bool.false_or, Bool.and_true, Bool.true_and, Bool.and_false, Bool.false_and, Bool.not_true, Bool.not_false, reduceCtorEq, beq_self_eq_true, true_and, and_true, if_true, if_false, Bool.false_eq_true]
  exact finI ((Sub.put hf).trans (Sub.put hp)) q
def sp_back_lot : SpD := fun ds h Q _ => ds.length = 2 ∧ ∃ (kind : Str) (a : List Str), ds = [.v (.str kind), .t (a.map sD)] ∧ kind ∈ kds ∧ (∀ w ∈ a, w ∈ wsL kind) ∧ a.length ≤ 1000 ∧ Q (.t ((ordL kind (a.map (bkF kind))).map sD)) h
def rd_back_lot (E : ER) : SD :=
  dRet (dCall sp_ordered E (dCons (dVar 0) (dCons (dLc (iAnyD (dVar 1)) (nG 2) (dYes) (dCall sp_back E0d (dCons (dVar 0) (dCons (dVar 2) (dNil)))) [2]) (dNil))))
abbrev N_back_lot : List Str := ["kind", "lot", "way"]
theorem ok_back_lot : ∀ ds h Q E, sp_back_lot ds h Q E → rd_back_lot (fun x _ h' => E x h') (fin Q) (startD N_back_lot ds) h := by
  rintro ds h Q E ⟨_, kind, a, rfl, hk, ha, hl, q⟩
  show rd_back_lot _ _ [some (.v (.str kind)), some (.t (a.map sD)), none] h
  unfold rd_back_lot
  try simp -dsimp -implicitDefEqProofs only [↓rds13, ↓rds14, ↓rds1, ↓rds2, ↓rds3, ↓rds4, ↓rds5, ↓rds6, ↓rds7, ↓rds8, ↓rds9, ↓rds10, ↓rds11, ↓rds12, List.set_cons_zero, List.set_cons_succ, ne_eq, not_false_eq_true, decide_eq_true_eq, Bool.or_true, Bool.or_false, Bool.true_or, Bool.false_or, Bool.and_true, Bool.true_and, Bool.and_false, Bool.false_and, Bool.not_true, Bool.not_false, reduceCtorEq, beq_self_eq_true, true_and, and_true, if_true, if_false, Bool.false_eq_true]
  refine cmp_map (onS (bkF kind)) trivial (by rw [List.length_map]; omega) ?_ ?_
  · intro x hx S N hS
    obtain ⟨w, hw, rfl⟩ := List.mem_map.mp hx
    have hS : S (sD (bkF kind w)) h := hS
    try simp -dsimp -implicitDefEqProofs only [↓rds13, ↓rds14, ↓rds1, ↓rds2, ↓rds3, ↓rds4, ↓rds5, ↓rds6, ↓rds7, ↓rds8, ↓rds9, ↓rds10, ↓rds11, ↓rds12, List.set_cons_zero, List.set_cons_succ, ne_eq, not_false_eq_true, decide_eq_true_eq, Bool.or_true, Bool.or_false, Bool.true_or, Bool.false_or, Bool.and_true, Bool.true_and, Bool.and_false, Bool.false_and, Bool.not_true, Bool.not_false, reduceCtorEq, beq_self_eq_true, true_and, and_true, if_true, if_false, Bool.false_eq_true, sD]
    exact cl_i ⟨rfl, kind, w, rfl, hk, by have := ws_len hk (ha w hw); omega, fun _ => hS, fun n => absurd (ha w hw) n⟩
  intro p hp
  try simp -dsimp -implicitDefEqProofs only [↓rds13, ↓rds14, ↓rds1, ↓rds2, ↓rds3, ↓rds4, ↓rds5, ↓rds6, ↓rds7, ↓rds8, ↓rds9, ↓rds10, ↓rds11, ↓rds12, List.set_cons_zero, List.set_cons_succ, ne_eq, not_false_eq_true, decide_eq_true_eq, Bool.or_true, Bool.or_false, Bool.true_or, Bool.false_or, Bool.and_true, Bool.true_and, Bool.and_false, Bool.false_and, Bool.not_true, Bool.not_false, reduceCtorEq, beq_self_eq_true, true_and, and_true, if_true, if_false, Bool.false_eq_true]
  rw [onS_sD]
  exact cl_i ⟨rfl, kind, _, a.map (bkF kind), h, rfl, hk, .inr ⟨p, rfl, put_same⟩, fun w hw => by
    obtain ⟨z, hz, rfl⟩ := List.mem_map.mp hw
    exact (bk_in hk z (ha z hz)).1, by rw [List.length_map]; exact hl, Sub.put hp, finR q⟩
def sp_mirrored_lot : SpD := fun ds h Q _ => ds.length = 2 ∧ ∃ (kind : Str) (a : List Str), ds = [.v (.str kind), .t (a.map sD)] ∧ kind ∈ kds ∧ (∀ w ∈ a, w ∈ wsL kind) ∧ a.length ≤ 1000 ∧ Q (.t ((ordL kind (a.map (mrF kind))).map sD)) h
def rd_mirrored_lot (E : ER) : SD :=
  dRet (dCall sp_ordered E (dCons (dVar 0) (dCons (dLc (iAnyD (dVar 1)) (nG 2) (dYes) (dCall sp_mirrored E0d (dCons (dVar 0) (dCons (dVar 2) (dNil)))) [2]) (dNil))))
abbrev N_mirrored_lot : List Str := ["kind", "lot", "way"]
theorem ok_mirrored_lot : ∀ ds h Q E, sp_mirrored_lot ds h Q E → rd_mirrored_lot (fun x _ h' => E x h') (fin Q) (startD N_mirrored_lot ds) h := by
  rintro ds h Q E ⟨_, kind, a, rfl, hk, ha, hl, q⟩
  show rd_mirrored_lot _ _ [some (.v (.str kind)), some (.t (a.map sD)), none] h
  unfold rd_mirrored_lot
  try simp -dsimp -implicitDefEqProofs only [↓rds13, ↓rds14, ↓rds1, ↓rds2, ↓rds3, ↓rds4, ↓rds5, ↓rds6, ↓rds7, ↓rds8, ↓rds9, ↓rds10, ↓rds11, ↓rds12, List.set_cons_zero, List.set_cons_succ, ne_eq, not_false_eq_true, decide_eq_true_eq, Bool.or_true, Bool.or_false, Bool.true_or, Bool.false_or, Bool.and_true, Bool.true_and, Bool.and_false, Bool.false_and, Bool.not_true, Bool.not_false, reduceCtorEq, beq_self_eq_true, true_and, and_true, if_true, if_false, Bool.false_eq_true]
  refine cmp_map (onS (mrF kind)) trivial (by rw [List.length_map]; omega) ?_ ?_
  · intro x hx S N hS
    obtain ⟨w, hw, rfl⟩ := List.mem_map.mp hx
    have hS : S (sD (mrF kind w)) h := hS
    try simp -dsimp -implicitDefEqProofs only [↓rds13, ↓rds14, ↓rds1, ↓rds2, ↓rds3, ↓rds4, ↓rds5, ↓rds6, ↓rds7, ↓rds8, ↓rds9, ↓rds10, ↓rds11, ↓rds12, List.set_cons_zero, List.set_cons_succ, ne_eq, not_false_eq_true, decide_eq_true_eq, Bool.or_true, Bool.or_false, Bool.true_or, Bool.false_or, Bool.and_true, Bool.true_and, Bool.and_false, Bool.false_and, Bool.not_true, Bool.not_false, reduceCtorEq, beq_self_eq_true, true_and, and_true, if_true, if_false, Bool.false_eq_true, sD]
    exact cl_i ⟨rfl, kind, w, rfl, hk, by have := ws_len hk (ha w hw); omega, fun _ => hS, fun n => absurd (ha w hw) n⟩
  intro p hp
  try simp -dsimp -implicitDefEqProofs only [↓rds13, ↓rds14, ↓rds1, ↓rds2, ↓rds3, ↓rds4, ↓rds5, ↓rds6, ↓rds7, ↓rds8, ↓rds9, ↓rds10, ↓rds11, ↓rds12, List.set_cons_zero, List.set_cons_succ, ne_eq, not_false_eq_true, decide_eq_true_eq, Bool.or_true, Bool.or_false, Bool.true_or, Bool.false_or, Bool.and_true, Bool.true_and, Bool.and_false, Bool.false_and, Bool.not_true, Bool.not_false, reduceCtorEq, beq_self_eq_true, true_and, and_true, if_true, if_false, Bool.false_eq_true]
  rw [onS_sD]
  exact cl_i ⟨rfl, kind, _, a.map (mrF kind), h, rfl, hk, .inr ⟨p, rfl, put_same⟩, fun w hw => by
    obtain ⟨z, hz, rfl⟩ := List.mem_map.mp hw
    exact (bk_in hk z (ha z hz)).2, by rw [List.length_map]; exact hl, Sub.put hp, finR q⟩
/-! ### the law's own lots -/
def sp_law_lot : SpD := fun ds h Q _ => ds.length = 2 ∧ ∃ (kind : Str) (d : D) (ws : List Str) (h0 : Hd), ds = [.v (.str kind), d] ∧ kind ∈ kds ∧ Seq h d ws ∧ ws.length ≤ 1000 ∧ Sub h0 h ∧ Q (.t ((ordL kind ws).map sD)) h0
def rd_law_lot (E : ER) : SD :=
  dSeq (dAsg (dNewK) (nG 2))
  (dSeq (dFor (iAnyD (dVar 1)) (nG 3) (dAsg (dC (.v (.bl true))) (subG (dVar 2) (dVar 3) setK)))
  (dRet (dCB cTuple (dCons (dLc (iAnyD (dCall sp_law_ways E (dCons (dVar 0) (dNil)))) (nG 4) (dTest (d2 pMem (dVar 4) (dVar 2))) (dVar 4) [4]) (dNil)))))
abbrev N_law_lot : List Str := ["kind", "words", "inner", "word", "way"]
theorem ok_law_lot : ∀ ds h Q E, sp_law_lot ds h Q E → rd_law_lot (fun x _ h' => E x h') (fin Q) (startD N_law_lot ds) h := by
  rintro ds h Q E ⟨_, kind, d, ws, h0, rfl, hk, sq, hl, sb, q⟩
  show rd_law_lot _ _ [some (.v (.str kind)), some d, none, none, none] h
  unfold rd_law_lot
  try simp -dsimp -implicitDefEqProofs only [↓rds13, ↓rds14, ↓rds1, ↓rds2, ↓rds3, ↓rds4, ↓rds5, ↓rds6, ↓rds7, ↓rds8, ↓rds9, ↓rds10, ↓rds11, ↓rds12, List.set_cons_zero, List.set_cons_succ, ne_eq, not_false_eq_true, decide_eq_true_eq, Bool.or_true, Bool.or_false, Bool.true_or, Bool.false_or, Bool.and_true, Bool.true_and, Bool.and_false, Bool.false_and, Bool.not_true, Bool.not_false, reduceCtorEq, beq_self_eq_true, true_and, and_true, if_true, if_false, Bool.false_eq_true]
  refine al_i fun f hf => ?_
  try simp -dsimp -implicitDefEqProofs only [↓rds13, ↓rds14, ↓rds1, ↓rds2, ↓rds3, ↓rds4, ↓rds5, ↓rds6, ↓rds7, ↓rds8, ↓rds9, ↓rds10, ↓rds11, ↓rds12, List.set_cons_zero, List.set_cons_succ, ne_eq, not_false_eq_true, decide_eq_true_eq, Bool.or_true, Bool.or_false, Bool.true_or, Bool.false_or, Bool.and_true, Bool.true_and, Bool.and_false, Bool.false_and, Bool.not_true, Bool.not_false, reduceCtorEq, beq_self_eq_true, true_and, and_true, if_true, if_false, Bool.false_eq_true]
  refine iAny_seq (sq.up (Sub.put hf)) fun chk hchk => ?_
  refine loop_of (fun i σ h' => h' = put h f (.dk (keysS (dd (ws.take i)))) ∧ ∃ v, σ = [some (.v (.str kind)), some d, some (.v (.ref f)), v, none]) ⟨rfl, _, rfl⟩ (fun i σ h' _ ⟨e, _⟩ => by rw [e]; exact hchk _ (sq.up (Sub.put hf))) ?_ ?_
  · rintro i x σ h' hx ⟨rfl, v, rfl⟩ N hN
    obtain ⟨w, hw1, rfl⟩ := sD_get hx
    have ld := len_dd (ws.take i)
    rw [List.length_take] at ld
    try simp -dsimp -implicitDefEqProofs only [↓rds13, ↓rds14, ↓rds1, ↓rds2, ↓rds3, ↓rds4, ↓rds5, ↓rds6, ↓rds7, ↓rds8, ↓rds9, ↓rds10, ↓rds11, ↓rds12, List.set_cons_zero, List.set_cons_succ, ne_eq, not_false_eq_true, decide_eq_true_eq, Bool.or_true, Bool.or_false, Bool.true_or, Bool.false_or, Bool.and_true, Bool.true_and, Bool.and_false, Bool.false_and, Bool.not_true, Bool.not_false, reduceCtorEq, beq_self_eq_true, true_and, and_true, if_true, if_false, Bool.false_eq_true, sD]
    refine ⟨?_, ?_⟩
    · rw [keysS_len]
      exact Nat.lt_of_le_of_lt (show _ ≤ 1000 by omega) (by decide)
    · rw [putS, ← dd_take hw1]
      exact hN _ _ ⟨rfl, _, rfl⟩
  · rintro σ h' ⟨rfl, v, rfl⟩
    rw [show ws.take (ws.map sD).length = ws from List.take_of_length_le (by rw [List.length_map]; exact Nat.le_refl _)]
    try simp -dsimp -implicitDefEqProofs only [↓rds13, ↓rds14, ↓rds1, ↓rds2, ↓rds3, ↓rds4, ↓rds5, ↓rds6, ↓rds7, ↓rds8, ↓rds9, ↓rds10, ↓rds11, ↓rds12, List.set_cons_zero, List.set_cons_succ, ne_eq, not_false_eq_true, decide_eq_true_eq, Bool.or_true, Bool.or_false, Bool.true_or, Bool.false_or, Bool.and_true, Bool.true_and, Bool.and_false, Bool.false_and, Bool.not_true, Bool.not_false, reduceCtorEq, beq_self_eq_true, true_and, and_true, if_true, if_false, Bool.false_eq_true]
    refine cl_i ⟨rfl, kind, rfl, hk, fun r hr => ?_⟩
    have nr := nf hr
    try simp -dsimp -implicitDefEqProofs only [↓rds13, ↓rds14, ↓rds1, ↓rds2, ↓rds3, ↓rds4, ↓rds5, ↓rds6, ↓rds7, ↓rds8, ↓rds9, ↓rds10, ↓rds11, ↓rds12, List.set_cons_zero, List.set_cons_succ, ne_eq, not_false_eq_true, decide_eq_true_eq, Bool.or_true, Bool.or_false, Bool.true_or, Bool.false_or, Bool.and_true, Bool.true_and, Bool.and_false, Bool.false_and, Bool.not_true, Bool.not_false, reduceCtorEq, beq_self_eq_true, true_and, and_true, if_true, if_false, Bool.false_eq_true]
    refine cmp_keep (i := 4) (j := 2) (fun w => decide (w ∈ ws)) (fun w Q q => ?_) (by show 4 < 5; decide) rfl (by decide) (rdL_l put_same) (Nat.le_trans (ws_ne hk).2 (by decide)) ?_
    · have g : put (put h f (.dk (keysS (dd ws)))) r (.lst ((wsL kind).map sD)) f = some (.dk (keysS (dd ws))) := by rw [put_ne nr.symm, put_same]
      try simp -dsimp -implicitDefEqProofs only [↓rds13, ↓rds14, ↓rds1, ↓rds2, ↓rds3, ↓rds4, ↓rds5, ↓rds6, ↓rds7, ↓rds8, ↓rds9, ↓rds10, ↓rds11, ↓rds12, List.set_cons_zero, List.set_cons_succ, ne_eq, not_false_eq_true, decide_eq_true_eq, Bool.or_true, Bool.or_false, Bool.true_or, Bool.false_or, Bool.and_true, Bool.true_and, Bool.and_false, Bool.false_and, Bool.not_true, Bool.not_false, reduceCtorEq, beq_self_eq_true, true_and, and_true, if_true, if_false, Bool.false_eq_true, g, valS_in, mem_dd]
      exact q
    intro p hp
    try simp -dsimp -implicitDefEqProofs only [↓rds13, ↓rds14, ↓rds1, ↓rds2, ↓rds3, ↓rds4, ↓rds5, ↓rds6, ↓rds7, ↓rds8, ↓rds9, ↓rds10, ↓rds11, ↓rds12, List.set_cons_zero, List.set_cons_succ, ne_eq, not_false_eq_true, decide_eq_true_eq, Bool.or_true, Bool.or_false, Bool.true_or, Bool.false_or, Bool.and_true, Bool.true_and, Bool.and_false, Bool.false_and, Bool.not_true, Bool.not_false, reduceCtorEq, beq_self_eq_true, true_and, and_true, if_true, if_false, Bool.false_eq_true]
    exact finI (sb.trans ((Sub.put hf).trans ((Sub.put hr).trans (Sub.put hp)))) q
def Lot (kind : Str) (ws : List Str) : Prop := ordL kind ws = ws
theorem Lot.mem {kind w : Str} {ws : List Str} (l : Lot kind ws) (h : w ∈ ws) : w ∈ wsL kind := by
  have : w ∈ ordL kind ws := by rw [l]; exact h
  exact (mem_ordL.mp this).1
theorem Lot.len {kind : Str} {ws : List Str} (hk : kind ∈ kds) (l : Lot kind ws) : ws.length ≤ 169 := by
  have := ordL_len hk ws
  rw [l] at this
  exact this
theorem lot_all (kind : Str) : Lot kind (wsL kind) := List.filter_eq_self.mpr fun w hw => decide_eq_true hw
theorem lot_filter {kind : Str} (p : Str → Bool) : Lot kind ((wsL kind).filter p) := by
  unfold Lot ordL
  refine List.filter_congr fun w hw => ?_
  by_cases c : p w = true
  · rw [c]; exact decide_eq_true (List.mem_filter.mpr ⟨hw, c⟩)
  · rw [Bool.not_eq_true] at c
    rw [c]
    exact decide_eq_false fun h => by rw [(List.mem_filter.mp h).2] at c; cases c
theorem lot_ord (kind : Str) (ws : List Str) : Lot kind (ordL kind ws) := ordL_ordL kind ws
def sp_law_drawn_lot : SpD := fun ds h Q _ => ds.length = 3 ∧ ∃ (p q : Addr) (cells : List Int) (kind : Str) (most : Int), ds = [.v (.ref p), .v (.str kind), .v (.int most)] ∧ PoolAt h p q cells ∧ kind ∈ kds ∧ 1 ≤ most ∧ most ≤ 100 ∧ ∀ (ws : List Str) (s : Int × Int × Int), Lot kind ws → Q (.t (ws.map sD)) (put h p (poolO q s))
def rd_law_drawn_lot (E : ER) : SD :=
  dSeq (dAsg (dCall sp_law_ways E (dCons (dVar 1) (dNil))) (nG 3))
  (dSeq (dAsg (dCall sp_law_draw E (dCons (dVar 0) (dCons (dC (.v (.int 12))) (dNil)))) (nG 4))
  (dSeq (dIfS (dTest (d2 pEqA (dVar 4) (dC (.v (.int 0))))) (dRet (dCB cTuple (dCons (dVar 3) (dNil)))) (dNext))
  (dSeq (dIfS (dTest (d2 pEqA (dVar 4) (dC (.v (.int 1))))) (dRet (dTup (dNil))) (dNext))
  (dSeq (dAsg (dLc (iRng1D (dCons (d2 pAdd (dC (.v (.int 1))) (dCall sp_law_draw E (dCons (dVar 0) (dCons (dVar 2) (dNil))))) (dNil))) (nG 6) (dYes) (d2 pIt (dVar 3) (dCall sp_law_draw E0d (dCons (dVar 0) (dCons (dCB cLen (dCons (dVar 3) (dNil))) (dNil))))) [6]) (nG 5))
  (dSeq (dIfS (dTest (d2 pEqA (dVar 4) (dC (.v (.int 2))))) (dRet (dCB cTuple (dCons (dLc (iAnyD (dVar 3)) (nG 7) (dTest (d2 pNotMem (dVar 7) (dVar 5))) (dVar 7) [7]) (dNil)))) (dNext))
  (dRet (dCall sp_law_lot E (dCons (dVar 1) (dCons (dVar 5) (dNil))))))))))
abbrev N_law_drawn_lot : List Str := ["pool", "kind", "most", "every", "choice", "found", "turn", "way"]
theorem ok_law_drawn_lot : ∀ ds h Q E, sp_law_drawn_lot ds h Q E → rd_law_drawn_lot (fun x _ h' => E x h') (fin Q) (startD N_law_drawn_lot ds) h := by
  rintro ds h Q E ⟨_, p, q, cells, kind, most, rfl, P, hk, m1, m2, ret⟩
  show rd_law_drawn_lot _ _ [some (.v (.ref p)), some (.v (.str kind)), some (.v (.int most)), none, none, none, none, none] h
  unfold rd_law_drawn_lot
  try simp -dsimp -implicitDefEqProofs only [↓rds13, ↓rds14, ↓rds1, ↓rds2, ↓rds3, ↓rds4, ↓rds5, ↓rds6, ↓rds7, ↓rds8, ↓rds9, ↓rds10, ↓rds11, ↓rds12, List.set_cons_zero, List.set_cons_succ, ne_eq, not_false_eq_true, decide_eq_true_eq, Bool.or_true, Bool.or_false, Bool.true_or, Bool.false_or, Bool.and_true, Bool.true_and, Bool.and_false, Bool.false_and, Bool.not_true, Bool.not_false, reduceCtorEq, beq_self_eq_true, true_and, and_true, if_true, if_false, Bool.false_eq_true]
  refine cl_i ⟨rfl, kind, rfl, hk, fun r hr => ?_⟩
  have nr := pool_ne P hr
  have P1 := pool_keep (o := .lst ((wsL kind).map sD)) P hr
  have x1 : SubX p h (put h r (.lst ((wsL kind).map sD))) := (SubX.refl p h).new hr
  have g1 : put h r (.lst ((wsL kind).map sD)) r = some (.lst ((wsL kind).map sD)) := put_same
  generalize put h r (.lst ((wsL kind).map sD)) = h1 at P1 x1 g1
  try simp -dsimp -implicitDefEqProofs only [↓rds13, ↓rds14, ↓rds1, ↓rds2, ↓rds3, ↓rds4, ↓rds5, ↓rds6, ↓rds7, ↓rds8, ↓rds9, ↓rds10, ↓rds11, ↓rds12, List.set_cons_zero, List.set_cons_succ, ne_eq, not_false_eq_true, decide_eq_true_eq, Bool.or_true, Bool.or_false, Bool.true_or, Bool.false_or, Bool.and_true, Bool.true_and, Bool.and_false, Bool.false_and, Bool.not_true, Bool.not_false, reduceCtorEq, beq_self_eq_true, true_and, and_true, if_true, if_false, Bool.false_eq_true]
  refine cl_i ⟨rfl, p, q, cells, 12, rfl, P1, by decide, by decide, fun k s k0 k1 => ?_⟩
  have P2 := pool_put P1 s
  have x2 := x1.set (o := poolO q s)
  have g2 : put h1 p (poolO q s) r = some (.lst ((wsL kind).map sD)) := by rw [put_ne nr.1]; exact g1
  have gp2 : put h1 p (poolO q s) p = some (poolO q s) := put_same
  generalize put h1 p (poolO q s) = h2 at P2 x2 g2 gp2
  obtain ⟨w1, w2⟩ := ws_ne hk
  try simp -dsimp -implicitDefEqProofs only [↓rds13, ↓rds14, ↓rds1, ↓rds2, ↓rds3, ↓rds4, ↓rds5, ↓rds6, ↓rds7, ↓rds8, ↓rds9, ↓rds10, ↓rds11, ↓rds12, List.set_cons_zero, List.set_cons_succ, ne_eq, not_false_eq_true, decide_eq_true_eq, Bool.or_true, Bool.or_false, Bool.true_or, Bool.false_or, Bool.and_true, Bool.true_and, Bool.and_false, Bool.false_and, Bool.not_true, Bool.not_false, reduceCtorEq, beq_self_eq_true, true_and, and_true, if_true, if_false, Bool.false_eq_true]
  refine dIte_by (fun e => ?_) fun e => ?_
  · try simp -dsimp -implicitDefEqProofs only [↓rds13, ↓rds14, ↓rds1, ↓rds2, ↓rds3, ↓rds4, ↓rds5, ↓rds6, ↓rds7, ↓rds8, ↓rds9, ↓rds10, ↓rds11, ↓rds12, List.set_cons_zero, List.set_cons_succ, ne_eq, not_false_eq_true, decide_eq_true_eq, Bool.or_true, Bool.or_false, Bool.true_or, Bool.false_or, Bool.and_true, Bool.true_and, Bool.and_false, Bool.false_and, Bool.not_true, Bool.not_false, reduceCtorEq, beq_self_eq_true, true_and, and_true, if_true, if_false, Bool.false_eq_true, g2]
    exact finI (x2.fin gp2) (ret _ s (lot_all kind))
  try simp -dsimp -implicitDefEqProofs only [↓rds13, ↓rds14, ↓rds1, ↓rds2, ↓rds3, ↓rds4, ↓rds5, ↓rds6, ↓rds7, ↓rds8, ↓rds9, ↓rds10, ↓rds11, ↓rds12, List.set_cons_zero, List.set_cons_succ, ne_eq, not_false_eq_true, decide_eq_true_eq, Bool.or_true, Bool.or_false, Bool.true_or, Bool.false_or, Bool.and_true, Bool.true_and, Bool.and_false, Bool.false_and, Bool.not_true, Bool.not_false, reduceCtorEq, beq_self_eq_true, true_and, and_true, if_true, if_false, Bool.false_eq_true]
  refine dIte_by (fun e => ?_) fun e => ?_
  · try simp -dsimp -implicitDefEqProofs only [↓rds13, ↓rds14, ↓rds1, ↓rds2, ↓rds3, ↓rds4, ↓rds5, ↓rds6, ↓rds7, ↓rds8, ↓rds9, ↓rds10, ↓rds11, ↓rds12, List.set_cons_zero, List.set_cons_succ, ne_eq, not_false_eq_true, decide_eq_true_eq, Bool.or_true, Bool.or_false, Bool.true_or, Bool.false_or, Bool.and_true, Bool.true_and, Bool.and_false, Bool.false_and, Bool.not_true, Bool.not_false, reduceCtorEq, beq_self_eq_true, true_and, and_true, if_true, if_false, Bool.false_eq_true]
    exact finI (x2.fin gp2) (ret [] s (by unfold Lot ordL; simp))
  try simp -dsimp -implicitDefEqProofs only [↓rds13, ↓rds14, ↓rds1, ↓rds2, ↓rds3, ↓rds4, ↓rds5, ↓rds6, ↓rds7, ↓rds8, ↓rds9, ↓rds10, ↓rds11, ↓rds12, List.set_cons_zero, List.set_cons_succ, ne_eq, not_false_eq_true, decide_eq_true_eq, Bool.or_true, Bool.or_false, Bool.true_or, Bool.false_or, Bool.and_true, Bool.true_and, Bool.and_false, Bool.false_and, Bool.not_true, Bool.not_false, reduceCtorEq, beq_self_eq_true, true_and, and_true, if_true, if_false, Bool.false_eq_true]
  refine cl_i ⟨rfl, p, q, cells, most, rfl, P2, by omega, log_small (by omega) (by omega), fun m s m0 m1 => ?_⟩
  have P3 := pool_put P2 s
  have x3 := x2.set (o := poolO q s)
  have g3 : put h2 p (poolO q s) r = some (.lst ((wsL kind).map sD)) := by rw [put_ne nr.1]; exact g2
  generalize put h2 p (poolO q s) = h3 at P3 x3 g3
  try simp -dsimp -implicitDefEqProofs only [↓rds13, ↓rds14, ↓rds1, ↓rds2, ↓rds3, ↓rds4, ↓rds5, ↓rds6, ↓rds7, ↓rds8, ↓rds9, ↓rds10, ↓rds11, ↓rds12, List.set_cons_zero, List.set_cons_succ, ne_eq, not_false_eq_true, decide_eq_true_eq, Bool.or_true, Bool.or_false, Bool.true_or, Bool.false_or, Bool.and_true, Bool.true_and, Bool.and_false, Bool.false_and, Bool.not_true, Bool.not_false, reduceCtorEq, beq_self_eq_true, true_and, and_true, if_true, if_false, Bool.false_eq_true]
  have lr : (rangeD 0 (1 + m).toNat).length ≤ 200 := by unfold rangeD; rw [List.length_map, List.length_range]; omega
  refine ⟨by omega, cmp_inv (fun acc h' => PoolAt h' p q cells ∧ SubX p h h' ∧ h' r = some (.lst ((wsL kind).map sD)) ∧ ∃ ws : List Str, acc = ws.map sD ∧ ∀ w ∈ ws, w ∈ wsL kind) ⟨P3, x3, g3, [], rfl, by simp⟩ (fun _ _ _ => trivial) (by omega) ?_ ?_⟩
  · rintro x acc h' hx ⟨P, xx, g, ws, rfl, hw⟩ la S N hS
    try simp -dsimp -implicitDefEqProofs only [↓rds13, ↓rds14, ↓rds1, ↓rds2, ↓rds3, ↓rds4, ↓rds5, ↓rds6, ↓rds7, ↓rds8, ↓rds9, ↓rds10, ↓rds11, ↓rds12, List.set_cons_zero, List.set_cons_succ, ne_eq, not_false_eq_true, decide_eq_true_eq, Bool.or_true, Bool.or_false, Bool.true_or, Bool.false_or, Bool.and_true, Bool.true_and, Bool.and_false, Bool.false_and, Bool.not_true, Bool.not_false, reduceCtorEq, beq_self_eq_true, true_and, and_true, if_true, if_false, Bool.false_eq_true, g, List.length_map]
    refine cl_i ⟨rfl, p, q, cells, ((wsL kind).length : Int), rfl, P, by omega, log_small (by omega) (by omega), fun k2 s2 k20 k21 => ?_⟩
    obtain ⟨z, hz, ez⟩ := at_list k20 k21
    have g' : put h' p (poolO q s2) r = some (.lst ((wsL kind).map sD)) := by rw [put_ne nr.1]; exact g
    try simp -dsimp -implicitDefEqProofs only [↓rds13, ↓rds14, ↓rds1, ↓rds2, ↓rds3, ↓rds4, ↓rds5, ↓rds6, ↓rds7, ↓rds8, ↓rds9, ↓rds10, ↓rds11, ↓rds12, List.set_cons_zero, List.set_cons_succ, ne_eq, not_false_eq_true, decide_eq_true_eq, Bool.or_true, Bool.or_false, Bool.true_or, Bool.false_or, Bool.and_true, Bool.true_and, Bool.and_false, Bool.false_and, Bool.not_true, Bool.not_false, reduceCtorEq, beq_self_eq_true, true_and, and_true, if_true, if_false, Bool.false_eq_true, g', ez]
    refine hS _ _ ⟨pool_put P s2, xx.set, g', ws ++ [z], by rw [List.map_append]; rfl, fun w hw' => ?_⟩
    rcases List.mem_append.mp hw' with k | k
    · exact hw w k
    · rw [List.mem_singleton.mp k]; exact hz
  rintro acc h4 lacc ⟨P, xx, g, ws, rfl, hw⟩
  rw [List.length_map] at lacc
  obtain ⟨st, gst⟩ := P.st
  intro f hf
  have gf : put h4 f (.lst (ws.map sD)) f = some (.lst (ws.map sD)) := put_same
  have gr : put h4 f (.lst (ws.map sD)) r = some (.lst ((wsL kind).map sD)) := by rw [put_ne (on g hf)]; exact g
  have gp : put h4 f (.lst (ws.map sD)) p = some (poolO q st) := by rw [put_ne (on gst hf)]; exact gst
  have x5 := xx.new (o := .lst (ws.map sD)) hf
  generalize put h4 f (.lst (ws.map sD)) = h5 at gf gr gp x5
  try simp -dsimp -implicitDefEqProofs only [↓rds13, ↓rds14, ↓rds1, ↓rds2, ↓rds3, ↓rds4, ↓rds5, ↓rds6, ↓rds7, ↓rds8, ↓rds9, ↓rds10, ↓rds11, ↓rds12, List.set_cons_zero, List.set_cons_succ, ne_eq, not_false_eq_true, decide_eq_true_eq, Bool.or_true, Bool.or_false, Bool.true_or, Bool.false_or, Bool.and_true, Bool.true_and, Bool.and_false, Bool.false_and, Bool.not_true, Bool.not_false, reduceCtorEq, beq_self_eq_true, true_and, and_true, if_true, if_false, Bool.false_eq_true]
  refine dIte_by (fun e => ?_) fun e => ?_
  · try simp -dsimp -implicitDefEqProofs only [↓rds13, ↓rds14, ↓rds1, ↓rds2, ↓rds3, ↓rds4, ↓rds5, ↓rds6, ↓rds7, ↓rds8, ↓rds9, ↓rds10, ↓rds11, ↓rds12, List.set_cons_zero, List.set_cons_succ, ne_eq, not_false_eq_true, decide_eq_true_eq, Bool.or_true, Bool.or_false, Bool.true_or, Bool.false_or, Bool.and_true, Bool.true_and, Bool.and_false, Bool.false_and, Bool.not_true, Bool.not_false, reduceCtorEq, beq_self_eq_true, true_and, and_true, if_true, if_false, Bool.false_eq_true, gr]
    refine cmp_keep (i := 7) (j := 5) (y := .v (.ref f)) (fun w => !decide (w ∈ ws)) (fun w Q q => ?_) (by show 7 < 8; decide) rfl (by decide) (rdL_l gr) (by omega) ?_
    · try simp -dsimp -implicitDefEqProofs only [↓rds13, ↓rds14, ↓rds1, ↓rds2, ↓rds3, ↓rds4, ↓rds5, ↓rds6, ↓rds7, ↓rds8, ↓rds9, ↓rds10, ↓rds11, ↓rds12, List.set_cons_zero, List.set_cons_succ, ne_eq, not_false_eq_true, decide_eq_true_eq, Bool.or_true, Bool.or_false, Bool.true_or, Bool.false_or, Bool.and_true, Bool.true_and, Bool.and_false, Bool.false_and, Bool.not_true, Bool.not_false, reduceCtorEq, beq_self_eq_true, true_and, and_true, if_true, if_false, Bool.false_eq_true, gf, inL_sD, flat_sD]
      exact ⟨rfl, q⟩
    intro c hc
    try simp -dsimp -implicitDefEqProofs only [↓rds13, ↓rds14, ↓rds1, ↓rds2, ↓rds3, ↓rds4, ↓rds5, ↓rds6, ↓rds7, ↓rds8, ↓rds9, ↓rds10, ↓rds11, ↓rds12, List.set_cons_zero, List.set_cons_succ, ne_eq, not_false_eq_true, decide_eq_true_eq, Bool.or_true, Bool.or_false, Bool.true_or, Bool.false_or, Bool.and_true, Bool.true_and, Bool.and_false, Bool.false_and, Bool.not_true, Bool.not_false, reduceCtorEq, beq_self_eq_true, true_and, and_true, if_true, if_false, Bool.false_eq_true]
    exact finI ((x5.fin gp).trans (Sub.put hc)) (ret _ st (lot_filter _))
  · try simp -dsimp -implicitDefEqProofs only [↓rds13, ↓rds14, ↓rds1, ↓rds2, ↓rds3, ↓rds4, ↓rds5, ↓rds6, ↓rds7, ↓rds8, ↓rds9, ↓rds10, ↓rds11, ↓rds12, List.set_cons_zero, List.set_cons_succ, ne_eq, not_false_eq_true, decide_eq_true_eq, Bool.or_true, Bool.or_false, Bool.true_or, Bool.false_or, Bool.and_true, Bool.true_and, Bool.and_false, Bool.false_and, Bool.not_true, Bool.not_false, reduceCtorEq, beq_self_eq_true, true_and, and_true, if_true, if_false, Bool.false_eq_true]
    refine cl_i ⟨rfl, kind, _, ws, put h p (poolO q st), rfl, hk, .inr ⟨f, rfl, gf⟩, by omega, x5.fin gp, ?_⟩
    exact finR (ret _ st (lot_ord kind ws))
end DL
/-! DLad: the law's judge of lots -/
namespace DL
open PySem L2
theorem lot_asc {kind : Str} (hk : kind ∈ kds) {ws : List Str} : Lot kind ws ↔ (∀ w ∈ ws, w ∈ wsL kind) ∧ (ws.map (pofI kind)).Pairwise (· < ·) := by
  constructor
  · intro l
    refine ⟨fun w hw => l.mem hw, ?_⟩
    have := ordL_asc hk ws
    rw [show ordL kind ws = ws from l] at this
    exact this
  · rintro ⟨h1, h2⟩
    have e : (ordL kind ws).map (pofI kind) = ws.map (pofI kind) := ext_asc (ordL_asc hk ws) h2 fun x => by
      rw [List.mem_map, List.mem_map]
      constructor
      · rintro ⟨w, hw, e⟩; exact ⟨w, (mem_ordL.mp hw).2, e⟩
      · rintro ⟨w, hw, e⟩; exact ⟨w, mem_ordL.mpr ⟨h1 w hw, hw⟩, e⟩
    have e2 := congrArg (List.map (ofP kind)) e
    rw [List.map_map, List.map_map] at e2
    have id1 : ∀ l : List Str, (∀ w ∈ l, w ∈ wsL kind) → l.map (ofP kind ∘ pofI kind) = l := fun l hl => by
      refine Eq.trans (List.map_congr_left fun w hw => ?_) (List.map_id l)
      exact ofP_pof (hl w hw)
    rw [id1 _ fun w hw => (mem_ordL.mp hw).1, id1 _ h1] at e2
    exact e2
theorem ixD_sD {w : Str} : ∀ {l : List Str}, w ∈ l → ixD (sD w) (l.map sD) = some (l.idxOf w)
  | [], h => by cases h
  | a :: r, h => by
    rw [List.map_cons, ixD, List.idxOf_cons]
    have e : eqD (sD a) (sD w) = decide (a = w) := by unfold sD eqD; exact eqV_str
    rw [e]
    by_cases c : a = w
    · subst c; simp
    · have hr : w ∈ r := by
        rcases List.mem_cons.mp h with z | z
        · exact absurd z.symm c
        · exact z
      rw [if_neg (by simpa using c), ixD_sD hr]
      have c' : (a == w) = false := by simpa using c
      rw [c']
      rfl
theorem lotB_true {kind : Str} {xs : List D} (h : lotB kind (.t xs) = true) : ∃ vs : List Str, xs = vs.map sD ∧ Lot kind vs := by
  by_cases a : xs.all isS = true
  · obtain ⟨vs, rfl⟩ := strsD_all a
    rw [lotB_sD, Bool.and_eq_true, decide_eq_true_eq] at h
    exact ⟨vs, rfl, h.2⟩
  · rw [Bool.not_eq_true] at a
    rw [lotB_not a] at h
    cases h
def KnV (h : Hd) (d : D) : Prop := Kn h d ∧ ∀ xs, d = .t xs → xs.length ≤ 1000 ∧ ∀ x ∈ xs, Kn h x ∧ ∀ z, x = sD z → z.length ≤ 1000
theorem KnV.up {h h' : Hd} {d : D} (k : KnV h d) (s : Sub h h') : KnV h' d := ⟨k.1.up s, fun xs e => ⟨(k.2 xs e).1, fun x hx => ⟨((k.2 xs e).2 x hx).1.up s, ((k.2 xs e).2 x hx).2⟩⟩⟩
def sp_law_is_lot : SpD := fun ds h Q _ => ds.length = 2 ∧ ∃ (kind : Str) (d : D), ds = [.v (.str kind), d] ∧ kind ∈ kds ∧ KnV h d ∧ Q (.v (.bl (lotB kind d))) h
def rd_law_is_lot (E : ER) : SD :=
  dSeq (dIfS (dNot (dTest (dCB cIsi (dCons (dVar 1) (dCons (dC (.v (.ty "tuple"))) (dNil)))))) (dRet (dC (.v (.bl false)))) (dNext))
  (dSeq (dAsg (dCall sp_law_ways E (dCons (dVar 0) (dNil))) (nG 2))
  (dSeq (dAsg (d1 pNeg (dC (.v (.int 1)))) (nG 3))
  (dSeq (dFor (iAnyD (dVar 1)) (nG 4) (dSeq (dIfS (dOr (dNot (dTest (dCB cIsi (dCons (dVar 4) (dCons (dC (.v (.ty "str"))) (dNil)))))) (dOr (dTest (d2 pNotMem (dVar 4) (dVar 2))) (dTest (d2 pLe (dBM "list" mIndex (dVar 2) (dCons (dVar 4) (dNil))) (dVar 3))))) (dRet (dC (.v (.bl false)))) (dNext))
  (dAsg (dBM "list" mIndex (dVar 2) (dCons (dVar 4) (dNil))) (nG 3))))
  (dRet (dC (.v (.bl true)))))))
abbrev N_law_is_lot : List Str := ["kind", "value", "every", "last", "word"]
theorem ok_law_is_lot : ∀ ds h Q E, sp_law_is_lot ds h Q E → rd_law_is_lot (fun x _ h' => E x h') (fin Q) (startD N_law_is_lot ds) h := by
  rintro ds h Q E ⟨_, kind, d, rfl, hk, ⟨kn, hx⟩, q⟩
  show rd_law_is_lot _ _ [some (.v (.str kind)), some d, none, none, none] h
  unfold rd_law_is_lot
  obtain ⟨m, e1, e2⟩ := tyName_tup kn
  by_cases ht : isTp d = true
  · obtain ⟨xs, rfl⟩ : ∃ xs, d = .t xs := by
      unfold isTp at ht
      split at ht
      · exact ⟨_, rfl⟩
      · cases ht
    obtain ⟨hl, hx⟩ := hx xs rfl
    try simp -dsimp -implicitDefEqProofs only [↓rds13, ↓rds14, ↓rds1, ↓rds2, ↓rds3, ↓rds4, ↓rds5, ↓rds6, ↓rds7, ↓rds8, ↓rds9, ↓rds10, ↓rds11, ↓rds12, List.set_cons_zero, List.set_cons_succ, ne_eq, not_false_eq_true, decide_eq_true_eq, Bool.or_true, Bool.or_false, Bool.true_or, Bool.false_or, Bool.and_true, Bool.true_and, Bool.and_false, Bool.false_and, Bool.not_true, Bool.not_false, reduceCtorEq, beq_self_eq_true, true_and, and_true, if_true, if_false, Bool.false_eq_true, e1, e2, ht]
    refine cl_i ⟨rfl, kind, rfl, hk, fun r hr => ?_⟩
    have g0 : put h r (.lst ((wsL kind).map sD)) r = some (.lst ((wsL kind).map sD)) := put_same
    have sb : Sub h (put h r (.lst ((wsL kind).map sD))) := Sub.put hr
    generalize put h r (.lst ((wsL kind).map sD)) = h1 at g0 sb
    try simp -dsimp -implicitDefEqProofs only [↓rds13, ↓rds14, ↓rds1, ↓rds2, ↓rds3, ↓rds4, ↓rds5, ↓rds6, ↓rds7, ↓rds8, ↓rds9, ↓rds10, ↓rds11, ↓rds12, List.set_cons_zero, List.set_cons_succ, ne_eq, not_false_eq_true, decide_eq_true_eq, Bool.or_true, Bool.or_false, Bool.true_or, Bool.false_or, Bool.and_true, Bool.true_and, Bool.and_false, Bool.false_and, Bool.not_true, Bool.not_false, reduceCtorEq, beq_self_eq_true, true_and, and_true, if_true, if_false, Bool.false_eq_true]
    refine loop_of (fun i σ h' => h' = h1 ∧ ∃ (ws : List Str) (last : Int) (v : Option D), σ = [some (.v (.str kind)), some (.t xs), some (.v (.ref r)), some (.v (.int last)), v] ∧ xs.take i = ws.map sD ∧ (∀ w ∈ ws, w ∈ wsL kind) ∧ (ws.map (pofI kind)).Pairwise (· < ·) ∧ (∀ w ∈ ws, pofI kind w ≤ last) ∧ -1 ≤ last ∧ (ws = [] → last = -1) ∧ (ws ≠ [] → ∃ w ∈ ws, pofI kind w = last)) ⟨rfl, [], -1, none, rfl, rfl, by simp, by simp, by simp, by omega, fun _ => rfl, fun n => absurd rfl n⟩ (fun _ _ _ _ _ => trivial) ?_ ?_
    · rintro i x σ h' hi ⟨rfl, ws, last, v, rfl, ht, hw, ha, hle, hm, hem, hlast⟩ N hN
      have xm := List.mem_of_getElem? hi
      obtain ⟨kx, hz⟩ := hx x xm
      obtain ⟨m, f1, f2⟩ := tyName_str (kx.up sb)
      have bad : lotB kind (.t xs) = false → Q (.v (.bl false)) h := fun e => by rw [e] at q; exact q
      try simp -dsimp -implicitDefEqProofs only [↓rds13, ↓rds14, ↓rds1, ↓rds2, ↓rds3, ↓rds4, ↓rds5, ↓rds6, ↓rds7, ↓rds8, ↓rds9, ↓rds10, ↓rds11, ↓rds12, List.set_cons_zero, List.set_cons_succ, ne_eq, not_false_eq_true, decide_eq_true_eq, Bool.or_true, Bool.or_false, Bool.true_or, Bool.false_or, Bool.and_true, Bool.true_and, Bool.and_false, Bool.false_and, Bool.not_true, Bool.not_false, reduceCtorEq, beq_self_eq_true, true_and, and_true, if_true, if_false, Bool.false_eq_true, f1, f2]
      refine dIte_by (fun c => ?_) fun c => ?_
      · refine dIte_pos rfl ?_
        try simp -dsimp -implicitDefEqProofs only [↓rds13, ↓rds14, ↓rds1, ↓rds2, ↓rds3, ↓rds4, ↓rds5, ↓rds6, ↓rds7, ↓rds8, ↓rds9, ↓rds10, ↓rds11, ↓rds12, List.set_cons_zero, List.set_cons_succ, ne_eq, not_false_eq_true, decide_eq_true_eq, Bool.or_true, Bool.or_false, Bool.true_or, Bool.false_or, Bool.and_true, Bool.true_and, Bool.and_false, Bool.false_and, Bool.not_true, Bool.not_false, reduceCtorEq, beq_self_eq_true, true_and, and_true, if_true, if_false, Bool.false_eq_true]
        refine finI sb (bad ?_)
        refine Bool.eq_false_iff.mpr fun z => ?_
        obtain ⟨vs, rfl, _⟩ := lotB_true z
        obtain ⟨y, _, rfl⟩ := List.mem_map.mp xm
        simp [isS, sD] at c
      have c : isS x = true := by simpa using c
      obtain ⟨w, rfl⟩ := isS_sD c
      try simp -dsimp -implicitDefEqProofs only [↓rds13, ↓rds14, ↓rds1, ↓rds2, ↓rds3, ↓rds4, ↓rds5, ↓rds6, ↓rds7, ↓rds8, ↓rds9, ↓rds10, ↓rds11, ↓rds12, List.set_cons_zero, List.set_cons_succ, ne_eq, not_false_eq_true, decide_eq_true_eq, Bool.or_true, Bool.or_false, Bool.true_or, Bool.false_or, Bool.and_true, Bool.true_and, Bool.and_false, Bool.false_and, Bool.not_true, Bool.not_false, reduceCtorEq, beq_self_eq_true, true_and, and_true, if_true, if_false, Bool.false_eq_true, sD, g0, inL_sD, flat_sD]
      refine ⟨rfl, ?_⟩
      refine dIte_by (fun c => ?_) fun c => ?_
      · refine dIte_pos rfl ?_
        try simp -dsimp -implicitDefEqProofs only [↓rds13, ↓rds14, ↓rds1, ↓rds2, ↓rds3, ↓rds4, ↓rds5, ↓rds6, ↓rds7, ↓rds8, ↓rds9, ↓rds10, ↓rds11, ↓rds12, List.set_cons_zero, List.set_cons_succ, ne_eq, not_false_eq_true, decide_eq_true_eq, Bool.or_true, Bool.or_false, Bool.true_or, Bool.false_or, Bool.and_true, Bool.true_and, Bool.and_false, Bool.false_and, Bool.not_true, Bool.not_false, reduceCtorEq, beq_self_eq_true, true_and, and_true, if_true, if_false, Bool.false_eq_true]
        refine finI sb (bad ?_)
        refine Bool.eq_false_iff.mpr fun z => ?_
        obtain ⟨vs, rfl, lv⟩ := lotB_true z
        obtain ⟨y, hy, e⟩ := List.mem_map.mp xm
        cases e
        exact absurd (lv.mem hy) (by simpa using c)
      have ww : w ∈ wsL kind := by simpa using c
      have ei : ixD (sD w) ((wsL kind).map sD) = some (pof kind w) := ixD_sD ww
      try simp -dsimp -implicitDefEqProofs only [↓rds13, ↓rds14, ↓rds1, ↓rds2, ↓rds3, ↓rds4, ↓rds5, ↓rds6, ↓rds7, ↓rds8, ↓rds9, ↓rds10, ↓rds11, ↓rds12, List.set_cons_zero, List.set_cons_succ, ne_eq, not_false_eq_true, decide_eq_true_eq, Bool.or_true, Bool.or_false, Bool.true_or, Bool.false_or, Bool.and_true, Bool.true_and, Bool.and_false, Bool.false_and, Bool.not_true, Bool.not_false, reduceCtorEq, beq_self_eq_true, true_and, and_true, if_true, if_false, Bool.false_eq_true, g0, flat_sD, ei]
      refine ⟨rfl, ?_⟩
      refine dIte_by (fun c => ?_) fun c => ?_
      · try simp -dsimp -implicitDefEqProofs only [↓rds13, ↓rds14, ↓rds1, ↓rds2, ↓rds3, ↓rds4, ↓rds5, ↓rds6, ↓rds7, ↓rds8, ↓rds9, ↓rds10, ↓rds11, ↓rds12, List.set_cons_zero, List.set_cons_succ, ne_eq, not_false_eq_true, decide_eq_true_eq, Bool.or_true, Bool.or_false, Bool.true_or, Bool.false_or, Bool.and_true, Bool.true_and, Bool.and_false, Bool.false_and, Bool.not_true, Bool.not_false, reduceCtorEq, beq_self_eq_true, true_and, and_true, if_true, if_false, Bool.false_eq_true]
        refine finI sb (bad ?_)
        refine Bool.eq_false_iff.mpr fun z => ?_
        obtain ⟨vs, rfl, lv⟩ := lotB_true z
        have a2 := ((lot_asc hk).mp lv).2
        have hv : vs[i]? = some w := by
          obtain ⟨y, hy, e⟩ := sD_get hi
          cases e
          exact hy
        have tk : vs.take i = ws := by
          have := ht
          rw [← List.map_take] at this
          exact (List.map_inj_right (fun a b e => by cases e; rfl)).mp this
        have a3 : ((vs.take (i + 1)).map (pofI kind)).Pairwise (· < ·) := by
          rw [List.map_take]
          exact a2.sublist (List.take_sublist _ _)
        rw [List.take_add_one, hv, tk, List.map_append, List.pairwise_append] at a3
        by_cases en : ws = []
        · have := hem en
          omega
        · obtain ⟨y, hy, ey⟩ := hlast en
          have := a3.2.2 _ (List.mem_map_of_mem hy) (pofI kind w) (by simp)
          unfold pofI at *
          omega
      · try simp -dsimp -implicitDefEqProofs only [↓rds13, ↓rds14, ↓rds1, ↓rds2, ↓rds3, ↓rds4, ↓rds5, ↓rds6, ↓rds7, ↓rds8, ↓rds9, ↓rds10, ↓rds11, ↓rds12, List.set_cons_zero, List.set_cons_succ, ne_eq, not_false_eq_true, decide_eq_true_eq, Bool.or_true, Bool.or_false, Bool.true_or, Bool.false_or, Bool.and_true, Bool.true_and, Bool.and_false, Bool.false_and, Bool.not_true, Bool.not_false, reduceCtorEq, beq_self_eq_true, true_and, and_true, if_true, if_false, Bool.false_eq_true, g0, flat_sD, ei]
        refine ⟨rfl, hN _ _ ⟨rfl, ws ++ [w], _, _, rfl, ?_, ?_, ?_, ?_, ?_, ?_, ?_⟩⟩
        · rw [List.take_add_one, hi, ht, List.map_append]
          rfl
        · intro y hy
          rcases List.mem_append.mp hy with k | k
          · exact hw y k
          · rw [List.mem_singleton.mp k]; exact ww
        · rw [List.map_append, List.pairwise_append]
          refine ⟨ha, by simp, fun a ha' b hb => ?_⟩
          obtain ⟨y, hy, rfl⟩ := List.mem_map.mp ha'
          have := hle y hy
          simp at hb
          subst hb
          unfold pofI at *
          omega
        · intro y hy
          rcases List.mem_append.mp hy with k | k
          · have := hle y k
            unfold pofI at *
            omega
          · rw [List.mem_singleton.mp k]; exact Int.le_refl _
        · omega
        · intro e
          simp at e
        · exact fun _ => ⟨w, List.mem_append_right _ (List.mem_singleton.mpr rfl), rfl⟩
    · rintro σ h' ⟨rfl, ws, last, v, rfl, ht, hw, ha, hle, hm, hem, hlast⟩
      rw [List.take_of_length_le (Nat.le_refl _)] at ht
      subst ht
      have : lotB kind (.t (ws.map sD)) = true := by
        rw [lotB_sD, decide_eq_true (show ordL kind ws = ws from (lot_asc hk).mpr ⟨hw, ha⟩), Bool.and_true]
        exact List.all_eq_true.mpr fun w hw' => decide_eq_true (hw w hw')
      rw [this] at q
      try simp -dsimp -implicitDefEqProofs only [↓rds13, ↓rds14, ↓rds1, ↓rds2, ↓rds3, ↓rds4, ↓rds5, ↓rds6, ↓rds7, ↓rds8, ↓rds9, ↓rds10, ↓rds11, ↓rds12, List.set_cons_zero, List.set_cons_succ, ne_eq, not_false_eq_true, decide_eq_true_eq, Bool.or_true, Bool.or_false, Bool.true_or, Bool.false_or, Bool.and_true, Bool.true_and, Bool.and_false, Bool.false_and, Bool.not_true, Bool.not_false, reduceCtorEq, beq_self_eq_true, true_and, and_true, if_true, if_false, Bool.false_eq_true]
      exact finI sb q
  · rw [Bool.not_eq_true] at ht
    have : lotB kind d = false := by
      unfold lotB
      split
      · cases ht
      · rfl
    rw [this] at q
    try simp -dsimp -implicitDefEqProofs only [↓rds13, ↓rds14, ↓rds1, ↓rds2, ↓rds3, ↓rds4, ↓rds5, ↓rds6, ↓rds7, ↓rds8, ↓rds9, ↓rds10, ↓rds11, ↓rds12, List.set_cons_zero, List.set_cons_succ, ne_eq, not_false_eq_true, decide_eq_true_eq, Bool.or_true, Bool.or_false, Bool.true_or, Bool.false_or, Bool.and_true, Bool.true_and, Bool.and_false, Bool.false_and, Bool.not_true, Bool.not_false, reduceCtorEq, beq_self_eq_true, true_and, and_true, if_true, if_false, Bool.false_eq_true, e1, e2, ht]
    exact finR q
end DL
namespace Lk03
open PySem L2 DL
def erL : List (Str × List (Str × Bool)) := [("StretchError", [("UnknownKind", true), ("BadWay", true)]), ("BadWay", [("UnknownKind", false), ("BadWay", true)]), ("UnknownKind", [("UnknownKind", true), ("BadWay", false)]), ("BadName", [("UnknownKind", false), ("BadWay", false)]), ("BadText", [("UnknownKind", false), ("BadWay", false)]), ("ValueError", [("UnknownKind", true), ("BadWay", true)])]
def erOwn : List Str := ["UnknownKind", "BadWay"]
def erFt : List (Str × Str) := [("BadWay", "way")]
theorem tb_UnknownKind_StretchError : tabOf erL "UnknownKind" "StretchError" = some true := by decide +kernel
theorem tb_BadWay_StretchError : tabOf erL "BadWay" "StretchError" = some true := by decide +kernel
theorem tb_UnknownKind_BadWay : tabOf erL "UnknownKind" "BadWay" = some false := by decide +kernel
theorem tb_BadWay_BadWay : tabOf erL "BadWay" "BadWay" = some true := by decide +kernel
theorem tb_UnknownKind_UnknownKind : tabOf erL "UnknownKind" "UnknownKind" = some true := by decide +kernel
theorem tb_BadWay_UnknownKind : tabOf erL "BadWay" "UnknownKind" = some false := by decide +kernel
theorem tb_UnknownKind_BadName : tabOf erL "UnknownKind" "BadName" = some false := by decide +kernel
theorem tb_BadWay_BadName : tabOf erL "BadWay" "BadName" = some false := by decide +kernel
theorem tb_UnknownKind_BadText : tabOf erL "UnknownKind" "BadText" = some false := by decide +kernel
theorem tb_BadWay_BadText : tabOf erL "BadWay" "BadText" = some false := by decide +kernel
theorem tb_UnknownKind_ValueError : tabOf erL "UnknownKind" "ValueError" = some true := by decide +kernel
theorem tb_BadWay_ValueError : tabOf erL "BadWay" "ValueError" = some true := by decide +kernel
theorem ow_UnknownKind : ownB erOwn "UnknownKind" = true := by decide +kernel
theorem ow_BadWay : ownB erOwn "BadWay" = true := by decide +kernel
theorem ft_BadWay_way : ftB erFt "BadWay" "way" = true := by decide +kernel
def ers := (And.intro @tb_UnknownKind_StretchError (And.intro @tb_BadWay_StretchError (And.intro @tb_UnknownKind_BadWay (And.intro @tb_BadWay_BadWay (And.intro @tb_UnknownKind_UnknownKind (And.intro @tb_BadWay_UnknownKind (And.intro @tb_UnknownKind_BadName (And.intro @tb_BadWay_BadName (And.intro @tb_UnknownKind_BadText (And.intro @tb_BadWay_BadText (And.intro @tb_UnknownKind_ValueError (And.intro @tb_BadWay_ValueError (And.intro @ow_UnknownKind (And.intro @ow_BadWay (And.intro @ft_BadWay_way trivial)))))))))))))))
def wrong (kind : Str) (ws : List Str) : Option Str := ws.find? fun w => !decide (w ∈ wsL kind)
def toldW (kind : Str) (ws : List Str) : D := match wrong kind ws with
  | some w => .t [sD "bad", sD w, .v (.bl true)]
  | none => .t [sD "told", .t ((ordL kind ws).map sD)]
def sp_law_told : SpD := fun ds h Q _ => ds.length = 2 ∧ ∃ (kind : Str) (d : D) (ws : List Str), ds = [.v (.str kind), d] ∧ kind ∈ kds ∧ Seq h d ws ∧ ws.length ≤ 1000 ∧ (∀ w ∈ ws, w.length ≤ 1000) ∧ Q (toldW kind ws) h
def rd_law_told (E : ER) : SD :=
  dTry (fun E => dRet (dTup (dCons (dC (.v (.str "told"))) (dCons (dCall sp_lot_of E (dCons (dVar 0) (dCons (dVar 1) (dNil)))) (dNil))))) (tabOf erL) [("BadWay", some 2, fun ea x => dSeq (dAsg (dXis 2 ea x erOwn (tabOf erL) ["UnknownKind", "BadName", "BadText"]) (nG 3))
  (dRet (dTup (dCons (dC (.v (.str "bad"))) (dCons (dXf 2 ea x erFt "way") (dCons (dAndV (dXi 2 ea x erOwn (tabOf erL) "StretchError") (dAndV (dXi 2 ea x erOwn (tabOf erL) "ValueError") (dNotV (dVar 3)))) (dNil))))))), ("StretchError", none, fun ea x => dRet (dTup (dCons (dC (.v (.str "other"))) (dNil))))] E
abbrev N_law_told : List Str := ["kind", "words", "e", "odd"]
theorem ok_law_told : ∀ ds h Q E, sp_law_told ds h Q E → rd_law_told (fun x _ h' => E x h') (fin Q) (startD N_law_told ds) h := by
  rintro ds h Q E ⟨_, kind, d, ws, rfl, hk, sq, hl, hz, q⟩
  show rd_law_told _ _ [some (.v (.str kind)), some d, none, none] h
  unfold rd_law_told
  try simp -dsimp -implicitDefEqProofs only [↓rds13, ↓rds14, ↓ers, ↓rds1, ↓rds2, ↓rds3, ↓rds4, ↓rds5, ↓rds6, ↓rds7, ↓rds8, ↓rds9, ↓rds10, ↓rds11, ↓rds12, List.set_cons_zero, List.set_cons_succ, ne_eq, not_false_eq_true, decide_eq_true_eq, Bool.or_true, Bool.or_false, Bool.true_or, Bool.false_or, Bool.and_true, Bool.true_and, Bool.and_false, Bool.false_and, Bool.not_true, Bool.not_false, reduceCtorEq, beq_self_eq_true, true_and, and_true, if_true, if_false, Bool.false_eq_true]
  refine cl_i ⟨rfl, kind, d, ws, h, rfl, hk, sq, hl, hz, Sub.refl h, fun w hw => ?_, fun hw => ?_⟩
  · have e : toldW kind ws = .t [sD "bad", sD w, .v (.bl true)] := by
      unfold toldW wrong
      rw [hw]
    rw [e] at q
    refine hE_hit_as tb_BadWay_BadWay fun a ha => ?_
    try simp -dsimp -implicitDefEqProofs only [↓rds13, ↓rds14, ↓ers, ↓rds1, ↓rds2, ↓rds3, ↓rds4, ↓rds5, ↓rds6, ↓rds7, ↓rds8, ↓rds9, ↓rds10, ↓rds11, ↓rds12, List.set_cons_zero, List.set_cons_succ, ne_eq, not_false_eq_true, decide_eq_true_eq, Bool.or_true, Bool.or_false, Bool.true_or, Bool.false_or, Bool.and_true, Bool.true_and, Bool.and_false, Bool.false_and, Bool.not_true, Bool.not_false, reduceCtorEq, beq_self_eq_true, true_and, and_true, if_true, if_false, Bool.false_eq_true]
    exact finR q
  · have e : toldW kind ws = .t [sD "told", .t ((ordL kind ws).map sD)] := by
      unfold toldW wrong
      rw [hw]
    rw [e] at q
    try simp -dsimp -implicitDefEqProofs only [↓rds13, ↓rds14, ↓ers, ↓rds1, ↓rds2, ↓rds3, ↓rds4, ↓rds5, ↓rds6, ↓rds7, ↓rds8, ↓rds9, ↓rds10, ↓rds11, ↓rds12, List.set_cons_zero, List.set_cons_succ, ne_eq, not_false_eq_true, decide_eq_true_eq, Bool.or_true, Bool.or_false, Bool.true_or, Bool.false_or, Bool.and_true, Bool.true_and, Bool.and_false, Bool.false_and, Bool.not_true, Bool.not_false, reduceCtorEq, beq_self_eq_true, true_and, and_true, if_true, if_false, Bool.false_eq_true]
    exact finR q
theorem filter_find {ws : List Str} {p : Str → Bool} : (ws.find? p = none ∧ ws.filter p = []) ∨ ∃ w r, ws.find? p = some w ∧ ws.filter p = w :: r := by
  induction ws with
  | nil => exact .inl ⟨rfl, rfl⟩
  | cons a s ih =>
    rw [List.find?_cons, List.filter_cons]
    by_cases c : p a = true
    · rw [c, if_pos rfl]; exact .inr ⟨a, _, rfl, rfl⟩
    · rw [Bool.not_eq_true] at c
      rw [c, if_neg (by simp)]; exact ih
theorem sm_strs {n : Nat} {l : List Str} (hl : l.length ≤ 1000) : smD (n + 2) (.t (l.map sD)) := ⟨by rw [List.length_map]; exact Nat.lt_of_le_of_lt hl (by decide), fun y hy => by
  obtain ⟨z, _, rfl⟩ := List.mem_map.mp hy
  exact (rfl : flatV (.str z) = true)⟩
theorem sm_told {a : Str} {l : List Str} (hl : l.length ≤ 1000) : smD 3 (.t [sD a, .t (l.map sD)]) := ⟨by show 2 < 2 ^ 60; decide, fun y hy => by
  rcases List.mem_cons.mp hy with rfl | hy
  · exact (rfl : flatV (.str a) = true)
  · rw [List.mem_singleton.mp hy]
    exact sm_strs (n := 0) hl⟩
theorem sm_bad {a b : Str} : smD 3 (.t [sD a, sD b, .v (.bl true)]) := ⟨by show 3 < 2 ^ 60; decide, fun y hy => by
  simp only [List.mem_cons, List.not_mem_nil, or_false] at hy
  rcases hy with rfl | rfl | rfl
  · exact (rfl : flatV (.str a) = true)
  · exact (rfl : flatV (.str b) = true)
  · exact (rfl : flatV (.bl true) = true)⟩
def sp_law_words_hold : SpD := fun ds h Q _ => ds.length = 2 ∧ ∃ (p q : Addr) (cells : List Int) (kind : Str), ds = [.v (.ref p), .v (.str kind)] ∧ PoolAt h p q cells ∧ kind ∈ kds ∧ ∀ s : Int × Int × Int, Q (.v (.bl true)) (put h p (poolO q s))
def rd_law_words_hold (E : ER) : SD :=
  dSeq (dAsg (dCall sp_law_ways E (dCons (dVar 1) (dNil))) (nG 2))
  (dSeq (dAsg (dLc (iRng1D (dCons (dCall sp_law_draw E (dCons (dVar 0) (dCons (dC (.v (.int 15))) (dNil)))) (dNil))) (nG 8) (dYes) (d2 pIt (dVar 2) (dCall sp_law_draw E0d (dCons (dVar 0) (dCons (dCB cLen (dCons (dVar 2) (dNil))) (dNil))))) [8]) (nG 3))
  (dSeq (dIfS (dAnd (dTest (d2 pGt (dCB cLen (dCons (dVar 3) (dNil))) (dC (.v (.int 2))))) (dTest (d2 pEqA (dCall sp_law_draw E (dCons (dVar 0) (dCons (dC (.v (.int 2))) (dNil)))) (dC (.v (.int 0)))))) (dAsg (d2 pIt (dVar 3) (dC (.v (.int 0)))) (subG (dVar 3) (dCall sp_law_draw E (dCons (dVar 0) (dCons (dCB cLen (dCons (dVar 3) (dNil))) (dNil)))) setK)) (dNext))
  (dSeq (dIfS (dTest (d2 pEqA (dCall sp_law_draw E (dCons (dVar 0) (dCons (dC (.v (.int 3))) (dNil)))) (dC (.v (.int 0))))) (dSeq (dAsg (dLst (dCons (dC (.v (.str ""))) (dCons (dC (.v (.str "x"))) (dCons (dC (.v (.str "am"))) (dCons (dC (.v (.str "ii"))) (dCons (dC (.v (.str "iI"))) (dCons (dC (.v (.str "s"))) (dCons (dC (.v (.str "ss"))) (dCons (dC (.v (.str "sss"))) (dCons (dC (.v (.str "a "))) (dCons (dC (.v (.str "be"))) (dCons (dC (.v (.str "Be"))) (dCons (dC (.v (.str "ZZ"))) (dNil)))))))))))))) (nG 7))
  (dFor (iRng1D (dCons (d2 pAdd (dC (.v (.int 1))) (dCall sp_law_draw E (dCons (dVar 0) (dCons (dC (.v (.int 2))) (dNil))))) (dNil))) (nG 8) (dDrop (dBM "list" mInsert (dVar 3) (dCons (dCall sp_law_draw E (dCons (dVar 0) (dCons (d2 pAdd (dCB cLen (dCons (dVar 3) (dNil))) (dC (.v (.int 1)))) (dNil)))) (dCons (d2 pIt (dVar 7) (dCall sp_law_draw E (dCons (dVar 0) (dCons (dC (.v (.int 12))) (dNil))))) (dNil))))))) (dNext))
  (dSeq (dAsg (dLc (iAnyD (dVar 3)) (nG 9) (dTest (d2 pNotMem (dVar 9) (dVar 2))) (dVar 9) [9]) (nG 4))
  (dSeq (dAsg (dTup (dCons (dC (.v (.str "told"))) (dCons (dCall sp_law_lot E (dCons (dVar 1) (dCons (dVar 3) (dNil)))) (dNil)))) (nG 5))
  (dSeq (dIfS (dTest (d2 pGt (dCB cLen (dCons (dVar 4) (dNil))) (dC (.v (.int 0))))) (dAsg (dTup (dCons (dC (.v (.str "bad"))) (dCons (d2 pIt (dVar 4) (dC (.v (.int 0)))) (dCons (dC (.v (.bl true))) (dNil))))) (nG 5)) (dNext))
  (dSeq (dAsg (dCB cList (dCons (dVar 3) (dNil))) (nG 6))
  (dRet (dAndV (dCall (sp_law_same 3) E (dCons (dCall sp_law_told E (dCons (dVar 1) (dCons (dVar 6) (dNil)))) (dCons (dVar 5) (dNil)))) (dCall (sp_law_same 3) E (dCons (dVar 6) (dCons (dVar 3) (dNil)))))))))))))
abbrev N_law_words_hold : List Str := ["pool", "kind", "every", "words", "wrong", "due", "given", "strange", "turn", "word"]
def w4 (E : ER) : SD :=
  dSeq (dAsg (dCB cList (dCons (dVar 3) (dNil))) (nG 6))
  (dRet (dAndV (dCall (sp_law_same 3) E (dCons (dCall sp_law_told E (dCons (dVar 1) (dCons (dVar 6) (dNil)))) (dCons (dVar 5) (dNil)))) (dCall (sp_law_same 3) E (dCons (dVar 6) (dCons (dVar 3) (dNil))))))
def w3 (E : ER) : SD :=
  dSeq (dAsg (dLc (iAnyD (dVar 3)) (nG 9) (dTest (d2 pNotMem (dVar 9) (dVar 2))) (dVar 9) [9]) (nG 4))
  (dSeq (dAsg (dTup (dCons (dC (.v (.str "told"))) (dCons (dCall sp_law_lot E (dCons (dVar 1) (dCons (dVar 3) (dNil)))) (dNil)))) (nG 5))
  (dSeq (dIfS (dTest (d2 pGt (dCB cLen (dCons (dVar 4) (dNil))) (dC (.v (.int 0))))) (dAsg (dTup (dCons (dC (.v (.str "bad"))) (dCons (d2 pIt (dVar 4) (dC (.v (.int 0)))) (dCons (dC (.v (.bl true))) (dNil))))) (nG 5)) (dNext))
  (dSeq (dAsg (dCB cList (dCons (dVar 3) (dNil))) (nG 6))
  (dRet (dAndV (dCall (sp_law_same 3) E (dCons (dCall sp_law_told E (dCons (dVar 1) (dCons (dVar 6) (dNil)))) (dCons (dVar 5) (dNil)))) (dCall (sp_law_same 3) E (dCons (dVar 6) (dCons (dVar 3) (dNil)))))))))
def w2 (E : ER) : SD :=
  dSeq (dIfS (dTest (d2 pEqA (dCall sp_law_draw E (dCons (dVar 0) (dCons (dC (.v (.int 3))) (dNil)))) (dC (.v (.int 0))))) (dSeq (dAsg (dLst (dCons (dC (.v (.str ""))) (dCons (dC (.v (.str "x"))) (dCons (dC (.v (.str "am"))) (dCons (dC (.v (.str "ii"))) (dCons (dC (.v (.str "iI"))) (dCons (dC (.v (.str "s"))) (dCons (dC (.v (.str "ss"))) (dCons (dC (.v (.str "sss"))) (dCons (dC (.v (.str "a "))) (dCons (dC (.v (.str "be"))) (dCons (dC (.v (.str "Be"))) (dCons (dC (.v (.str "ZZ"))) (dNil)))))))))))))) (nG 7))
  (dFor (iRng1D (dCons (d2 pAdd (dC (.v (.int 1))) (dCall sp_law_draw E (dCons (dVar 0) (dCons (dC (.v (.int 2))) (dNil))))) (dNil))) (nG 8) (dDrop (dBM "list" mInsert (dVar 3) (dCons (dCall sp_law_draw E (dCons (dVar 0) (dCons (d2 pAdd (dCB cLen (dCons (dVar 3) (dNil))) (dC (.v (.int 1)))) (dNil)))) (dCons (d2 pIt (dVar 7) (dCall sp_law_draw E (dCons (dVar 0) (dCons (dC (.v (.int 12))) (dNil))))) (dNil))))))) (dNext))
  (dSeq (dAsg (dLc (iAnyD (dVar 3)) (nG 9) (dTest (d2 pNotMem (dVar 9) (dVar 2))) (dVar 9) [9]) (nG 4))
  (dSeq (dAsg (dTup (dCons (dC (.v (.str "told"))) (dCons (dCall sp_law_lot E (dCons (dVar 1) (dCons (dVar 3) (dNil)))) (dNil)))) (nG 5))
  (dSeq (dIfS (dTest (d2 pGt (dCB cLen (dCons (dVar 4) (dNil))) (dC (.v (.int 0))))) (dAsg (dTup (dCons (dC (.v (.str "bad"))) (dCons (d2 pIt (dVar 4) (dC (.v (.int 0)))) (dCons (dC (.v (.bl true))) (dNil))))) (nG 5)) (dNext))
  (dSeq (dAsg (dCB cList (dCons (dVar 3) (dNil))) (nG 6))
  (dRet (dAndV (dCall (sp_law_same 3) E (dCons (dCall sp_law_told E (dCons (dVar 1) (dCons (dVar 6) (dNil)))) (dCons (dVar 5) (dNil)))) (dCall (sp_law_same 3) E (dCons (dVar 6) (dCons (dVar 3) (dNil))))))))))
/-- the words at hand -/
structure Wd (h0 h : Hd) (p q r a : Addr) (cells : List Int) (kind : Str) (ws : List Str) (n : Nat) : Prop where
  P : PoolAt h p q cells
  sx : SubX p h0 h
  gr : h r = some (.lst ((wsL kind).map sD))
  ga : h a = some (.lst (ws.map sD))
  ln : ws.length ≤ n
  zs : ∀ w ∈ ws, w.length ≤ 10
  fr : h0 a = none
  ne : a ≠ p ∧ a ≠ q ∧ r ≠ a ∧ r ≠ p
theorem subX_over {p a : Addr} {h h' : Hd} {o : O} (s : SubX p h h') (n : h a = none) : SubX p h (put h' a o) := fun b u nb e => by
  have z : b ≠ a := fun z => by rw [z, n] at e; cases e
  rw [put_ne z]
  exact s b u nb e
theorem Wd.more {h0 h : Hd} {p q r a : Addr} {cells : List Int} {kind : Str} {ws : List Str} {n m : Nat} (W : Wd h0 h p q r a cells kind ws n) (hm : n ≤ m) : Wd h0 h p q r a cells kind ws m := ⟨W.P, W.sx, W.gr, W.ga, Nat.le_trans W.ln hm, W.zs, W.fr, W.ne⟩
theorem Wd.new {h0 h : Hd} {p q r a f : Addr} {cells : List Int} {kind : Str} {ws : List Str} {n : Nat} {o : O} (W : Wd h0 h p q r a cells kind ws n) (hf : h f = none) : Wd h0 (put h f o) p q r a cells kind ws n := ⟨pool_keep W.P hf, W.sx.new hf, by rw [put_ne (on W.gr hf)]; exact W.gr, by rw [put_ne (on W.ga hf)]; exact W.ga, W.ln, W.zs, W.fr, W.ne⟩
theorem Wd.pool {h0 h : Hd} {p q r a : Addr} {cells : List Int} {kind : Str} {ws : List Str} {n : Nat} (W : Wd h0 h p q r a cells kind ws n) (s : Int × Int × Int) : Wd h0 (put h p (poolO q s)) p q r a cells kind ws n := ⟨pool_put W.P s, W.sx.set, by rw [put_ne W.ne.2.2.2]; exact W.gr, by rw [put_ne W.ne.1]; exact W.ga, W.ln, W.zs, W.fr, W.ne⟩
theorem Wd.set {h0 h : Hd} {p q r a : Addr} {cells : List Int} {kind : Str} {ws vs : List Str} {n m : Nat} (W : Wd h0 h p q r a cells kind ws n) (hl : vs.length ≤ m) (hz : ∀ w ∈ vs, w.length ≤ 10) : Wd h0 (put h a (.lst (vs.map sD))) p q r a cells kind vs m := by
  obtain ⟨st, g⟩ := W.P.st
  refine ⟨⟨⟨st, by rw [put_ne W.ne.1.symm]; exact g⟩, by rw [put_ne W.ne.2.1.symm]; exact W.P.cl, W.P.ne, W.P.ln⟩, subX_over W.sx W.fr, by rw [put_ne W.ne.2.2.1]; exact W.gr, put_same, hl, hz, W.fr, W.ne⟩
theorem same_strs {h : Hd} {n : Nat} {a b : Addr} {ws : List Str} (ha : h a = some (.lst (ws.map sD))) (hb : h b = some (.lst (ws.map sD))) (hl : ws.length ≤ 1000) : sameB h (n + 2) (.v (.ref a)) (.v (.ref b)) :=
  ⟨a, _, _, rfl, ha, hb, rfl, by rw [List.length_map]; exact Nat.lt_of_le_of_lt hl (by decide), fun i x y e1 e2 => by
    rw [e1] at e2
    cases e2
    obtain ⟨z, _, rfl⟩ := sD_get e1
    exact ⟨rfl, rfl⟩⟩
theorem sm_toldW {kind : Str} (hk : kind ∈ kds) (ws : List Str) : smD 3 (toldW kind ws) := by
  unfold toldW
  cases wrong kind ws with
  | none => exact sm_told (Nat.le_trans (ordL_len hk ws) (by decide))
  | some w => exact sm_bad
theorem w4_ok {h : Hd} {Q : KD} {E : XD → Hd → Prop} {p q r a : Addr} {cells : List Int} {kind : Str} (hk : kind ∈ kds) (ret : ∀ s : Int × Int × Int, Q (.v (.bl true)) (put h p (poolO q s))) {h' : Hd} {ws : List Str} {v4 v7 v8 : Option D} (W : Wd h h' p q r a cells kind ws 20) :
    w4 (fun x _ h' => E x h') (fin Q) [some (.v (.ref p)), some (.v (.str kind)), some (.v (.ref r)), some (.v (.ref a)), v4, some (toldW kind ws), none, v7, v8, none] h' := by
  unfold w4
  have Wa := W.ga
  try simp -dsimp -implicitDefEqProofs only [↓rds13, ↓rds14, ↓ers, ↓rds1, ↓rds2, ↓rds3, ↓rds4, ↓rds5, ↓rds6, ↓rds7, ↓rds8, ↓rds9, ↓rds10, ↓rds11, ↓rds12, List.set_cons_zero, List.set_cons_succ, ne_eq, not_false_eq_true, decide_eq_true_eq, Bool.or_true, Bool.or_false, Bool.true_or, Bool.false_or, Bool.and_true, Bool.true_and, Bool.and_false, Bool.false_and, Bool.not_true, Bool.not_false, reduceCtorEq, beq_self_eq_true, true_and, and_true, if_true, if_false, Bool.false_eq_true, Wa]
  refine al_i fun g hg => ?_
  have W1 := W.new (o := .lst (ws.map sD)) hg
  have gg : put h' g (.lst (ws.map sD)) g = some (.lst (ws.map sD)) := put_same
  generalize put h' g (.lst (ws.map sD)) = h1 at W1 gg
  have l1000 : ws.length ≤ 1000 := Nat.le_trans W.ln (by decide)
  try simp -dsimp -implicitDefEqProofs only [↓rds13, ↓rds14, ↓ers, ↓rds1, ↓rds2, ↓rds3, ↓rds4, ↓rds5, ↓rds6, ↓rds7, ↓rds8, ↓rds9, ↓rds10, ↓rds11, ↓rds12, List.set_cons_zero, List.set_cons_succ, ne_eq, not_false_eq_true, decide_eq_true_eq, Bool.or_true, Bool.or_false, Bool.true_or, Bool.false_or, Bool.and_true, Bool.true_and, Bool.and_false, Bool.false_and, Bool.not_true, Bool.not_false, reduceCtorEq, beq_self_eq_true, true_and, and_true, if_true, if_false, Bool.false_eq_true]
  refine cl_i ⟨rfl, kind, _, ws, rfl, hk, .inr ⟨g, rfl, gg⟩, l1000, fun w hw => Nat.le_trans (W.zs w hw) (by decide), ?_⟩
  try simp -dsimp -implicitDefEqProofs only [↓rds13, ↓rds14, ↓ers, ↓rds1, ↓rds2, ↓rds3, ↓rds4, ↓rds5, ↓rds6, ↓rds7, ↓rds8, ↓rds9, ↓rds10, ↓rds11, ↓rds12, List.set_cons_zero, List.set_cons_succ, ne_eq, not_false_eq_true, decide_eq_true_eq, Bool.or_true, Bool.or_false, Bool.true_or, Bool.false_or, Bool.and_true, Bool.true_and, Bool.and_false, Bool.false_and, Bool.not_true, Bool.not_false, reduceCtorEq, beq_self_eq_true, true_and, and_true, if_true, if_false, Bool.false_eq_true]
  refine cl_i ⟨rfl, _, _, rfl, same_refl (sm_toldW hk ws), ?_⟩
  try simp -dsimp -implicitDefEqProofs only [↓rds13, ↓rds14, ↓ers, ↓rds1, ↓rds2, ↓rds3, ↓rds4, ↓rds5, ↓rds6, ↓rds7, ↓rds8, ↓rds9, ↓rds10, ↓rds11, ↓rds12, List.set_cons_zero, List.set_cons_succ, ne_eq, not_false_eq_true, decide_eq_true_eq, Bool.or_true, Bool.or_false, Bool.true_or, Bool.false_or, Bool.and_true, Bool.true_and, Bool.and_false, Bool.false_and, Bool.not_true, Bool.not_false, reduceCtorEq, beq_self_eq_true, true_and, and_true, if_true, if_false, Bool.false_eq_true]
  refine cl_i ⟨rfl, _, _, rfl, same_strs (n := 1) gg W1.ga l1000, ?_⟩
  obtain ⟨st, gst⟩ := W1.P.st
  exact finI (W1.sx.fin gst) (ret st)
theorem w3_ok {h : Hd} {Q : KD} {E : XD → Hd → Prop} {p q r a : Addr} {cells : List Int} {kind : Str} (hk : kind ∈ kds) (ret : ∀ s : Int × Int × Int, Q (.v (.bl true)) (put h p (poolO q s))) {h' : Hd} {ws : List Str} {v7 v8 : Option D} (W : Wd h h' p q r a cells kind ws 20) :
    w3 (fun x _ h' => E x h') (fin Q) [some (.v (.ref p)), some (.v (.str kind)), some (.v (.ref r)), some (.v (.ref a)), none, none, none, v7, v8, none] h' := by
  unfold w3
  have Wa := W.ga
  have Wr := W.gr
  try simp -dsimp -implicitDefEqProofs only [↓rds13, ↓rds14, ↓ers, ↓rds1, ↓rds2, ↓rds3, ↓rds4, ↓rds5, ↓rds6, ↓rds7, ↓rds8, ↓rds9, ↓rds10, ↓rds11, ↓rds12, List.set_cons_zero, List.set_cons_succ, ne_eq, not_false_eq_true, decide_eq_true_eq, Bool.or_true, Bool.or_false, Bool.true_or, Bool.false_or, Bool.and_true, Bool.true_and, Bool.and_false, Bool.false_and, Bool.not_true, Bool.not_false, reduceCtorEq, beq_self_eq_true, true_and, and_true, if_true, if_false, Bool.false_eq_true, Wa]
  refine cmp_keep (i := 9) (j := 2) (y := .v (.ref r)) (fun w => !decide (w ∈ wsL kind)) (fun w Q q => ?_) (by show 9 < 10; decide) rfl (by decide) (rdL_l Wa) (Nat.le_trans W.ln (by decide)) ?_
  · try simp -dsimp -implicitDefEqProofs only [↓rds13, ↓rds14, ↓ers, ↓rds1, ↓rds2, ↓rds3, ↓rds4, ↓rds5, ↓rds6, ↓rds7, ↓rds8, ↓rds9, ↓rds10, ↓rds11, ↓rds12, List.set_cons_zero, List.set_cons_succ, ne_eq, not_false_eq_true, decide_eq_true_eq, Bool.or_true, Bool.or_false, Bool.true_or, Bool.false_or, Bool.and_true, Bool.true_and, Bool.and_false, Bool.false_and, Bool.not_true, Bool.not_false, reduceCtorEq, beq_self_eq_true, true_and, and_true, if_true, if_false, Bool.false_eq_true, Wr, inL_sD, flat_sD]
    exact ⟨rfl, q⟩
  intro f hf
  have W1 := W.new (o := .lst ((ws.filter fun w => !decide (w ∈ wsL kind)).map sD)) hf
  have gf : put h' f (.lst ((ws.filter fun w => !decide (w ∈ wsL kind)).map sD)) f = some (.lst ((ws.filter fun w => !decide (w ∈ wsL kind)).map sD)) := put_same
  generalize put h' f (.lst ((ws.filter fun w => !decide (w ∈ wsL kind)).map sD)) = h1 at W1 gf
  try simp -dsimp -implicitDefEqProofs only [↓rds13, ↓rds14, ↓ers, ↓rds1, ↓rds2, ↓rds3, ↓rds4, ↓rds5, ↓rds6, ↓rds7, ↓rds8, ↓rds9, ↓rds10, ↓rds11, ↓rds12, List.set_cons_zero, List.set_cons_succ, ne_eq, not_false_eq_true, decide_eq_true_eq, Bool.or_true, Bool.or_false, Bool.true_or, Bool.false_or, Bool.and_true, Bool.true_and, Bool.and_false, Bool.false_and, Bool.not_true, Bool.not_false, reduceCtorEq, beq_self_eq_true, true_and, and_true, if_true, if_false, Bool.false_eq_true]
  refine cl_i ⟨rfl, kind, _, ws, h1, rfl, hk, .inr ⟨a, rfl, W1.ga⟩, Nat.le_trans W.ln (by decide), Sub.refl _, ?_⟩
  try simp -dsimp -implicitDefEqProofs only [↓rds13, ↓rds14, ↓ers, ↓rds1, ↓rds2, ↓rds3, ↓rds4, ↓rds5, ↓rds6, ↓rds7, ↓rds8, ↓rds9, ↓rds10, ↓rds11, ↓rds12, List.set_cons_zero, List.set_cons_succ, ne_eq, not_false_eq_true, decide_eq_true_eq, Bool.or_true, Bool.or_false, Bool.true_or, Bool.false_or, Bool.and_true, Bool.true_and, Bool.and_false, Bool.false_and, Bool.not_true, Bool.not_false, reduceCtorEq, beq_self_eq_true, true_and, and_true, if_true, if_false, Bool.false_eq_true, gf]
  rcases filter_find (ws := ws) (p := fun w => !decide (w ∈ wsL kind)) with ⟨e1, e2⟩ | ⟨w, rr, e1, e2⟩
  · rw [e2]
    refine dIte_neg (by simp) ?_
    have e : D.t [D.v (.str "told"), D.t ((ordL kind ws).map sD)] = toldW kind ws := by unfold toldW wrong; rw [e1]; rfl
    rw [e]
    exact w4_ok hk ret W1
  · rw [e2] at gf ⊢
    refine dIte_pos (by simp) ?_
    rw [List.map_cons] at gf
    have e : D.t [D.v (.str "bad"), sD w, .v (.bl true)] = toldW kind ws := by unfold toldW wrong; rw [e1]; rfl
    have t := w4_ok (E := E) (v4 := some (.v (.ref f))) (v7 := v7) (v8 := v8) hk ret W1
    rw [← e] at t
    unfold w4 at t
    revert t
    try simp -dsimp -implicitDefEqProofs only [↓rds13, ↓rds14, ↓ers, ↓rds1, ↓rds2, ↓rds3, ↓rds4, ↓rds5, ↓rds6, ↓rds7, ↓rds8, ↓rds9, ↓rds10, ↓rds11, ↓rds12, List.set_cons_zero, List.set_cons_succ, ne_eq, not_false_eq_true, decide_eq_true_eq, Bool.or_true, Bool.or_false, Bool.true_or, Bool.false_or, Bool.and_true, Bool.true_and, Bool.and_false, Bool.false_and, Bool.not_true, Bool.not_false, reduceCtorEq, beq_self_eq_true, true_and, and_true, if_true, if_false, Bool.false_eq_true, gf]
    exact fun t => t
theorem strange_len : ∀ w ∈ (["", "x", "am", "ii", "iI", "s", "ss", "sss", "a ", "be", "Be", "ZZ"] : List Str), w.length ≤ 10 := by decide
theorem w2_ok {h : Hd} {Q : KD} {E : XD → Hd → Prop} {p q r a : Addr} {cells : List Int} {kind : Str} (hk : kind ∈ kds) (ret : ∀ s : Int × Int × Int, Q (.v (.bl true)) (put h p (poolO q s))) {h' : Hd} {ws : List Str} (W : Wd h h' p q r a cells kind ws 15) :
    w2 (fun x _ h' => E x h') (fin Q) [some (.v (.ref p)), some (.v (.str kind)), some (.v (.ref r)), some (.v (.ref a)), none, none, none, none, none, none] h' := by
  unfold w2
  have Wa := W.ga
  try simp -dsimp -implicitDefEqProofs only [↓rds13, ↓rds14, ↓ers, ↓rds1, ↓rds2, ↓rds3, ↓rds4, ↓rds5, ↓rds6, ↓rds7, ↓rds8, ↓rds9, ↓rds10, ↓rds11, ↓rds12, List.set_cons_zero, List.set_cons_succ, ne_eq, not_false_eq_true, decide_eq_true_eq, Bool.or_true, Bool.or_false, Bool.true_or, Bool.false_or, Bool.and_true, Bool.true_and, Bool.and_false, Bool.false_and, Bool.not_true, Bool.not_false, reduceCtorEq, beq_self_eq_true, true_and, and_true, if_true, if_false, Bool.false_eq_true]
  refine cl_i ⟨rfl, p, q, cells, 3, rfl, W.P, by decide, by decide, fun k s k0 k1 => ?_⟩
  have W1 := W.pool s
  generalize put h' p (poolO q s) = h1 at W1
  try simp -dsimp -implicitDefEqProofs only [↓rds13, ↓rds14, ↓ers, ↓rds1, ↓rds2, ↓rds3, ↓rds4, ↓rds5, ↓rds6, ↓rds7, ↓rds8, ↓rds9, ↓rds10, ↓rds11, ↓rds12, List.set_cons_zero, List.set_cons_succ, ne_eq, not_false_eq_true, decide_eq_true_eq, Bool.or_true, Bool.or_false, Bool.true_or, Bool.false_or, Bool.and_true, Bool.true_and, Bool.and_false, Bool.false_and, Bool.not_true, Bool.not_false, reduceCtorEq, beq_self_eq_true, true_and, and_true, if_true, if_false, Bool.false_eq_true]
  refine dIte_by (fun e => ?_) fun e => ?_
  · try simp -dsimp -implicitDefEqProofs only [↓rds13, ↓rds14, ↓ers, ↓rds1, ↓rds2, ↓rds3, ↓rds4, ↓rds5, ↓rds6, ↓rds7, ↓rds8, ↓rds9, ↓rds10, ↓rds11, ↓rds12, List.set_cons_zero, List.set_cons_succ, ne_eq, not_false_eq_true, decide_eq_true_eq, Bool.or_true, Bool.or_false, Bool.true_or, Bool.false_or, Bool.and_true, Bool.true_and, Bool.and_false, Bool.false_and, Bool.not_true, Bool.not_false, reduceCtorEq, beq_self_eq_true, true_and, and_true, if_true, if_false, Bool.false_eq_true]
    refine al_i fun l hl => ?_
    have W2 := W1.new (o := .lst [D.v (.str ""), D.v (.str "x"), D.v (.str "am"), D.v (.str "ii"), D.v (.str "iI"), D.v (.str "s"), D.v (.str "ss"), D.v (.str "sss"), D.v (.str "a "), D.v (.str "be"), D.v (.str "Be"), D.v (.str "ZZ")]) hl
    have gl : put h1 l (.lst [D.v (.str ""), D.v (.str "x"), D.v (.str "am"), D.v (.str "ii"), D.v (.str "iI"), D.v (.str "s"), D.v (.str "ss"), D.v (.str "sss"), D.v (.str "a "), D.v (.str "be"), D.v (.str "Be"), D.v (.str "ZZ")]) l = some (.lst ((["", "x", "am", "ii", "iI", "s", "ss", "sss", "a ", "be", "Be", "ZZ"] : List Str).map sD)) := put_same
    have nla : l ≠ a ∧ l ≠ p := ⟨(on W1.ga hl).symm, (pool_ne W1.P hl).1⟩
    generalize put h1 l (.lst [D.v (.str ""), D.v (.str "x"), D.v (.str "am"), D.v (.str "ii"), D.v (.str "iI"), D.v (.str "s"), D.v (.str "ss"), D.v (.str "sss"), D.v (.str "a "), D.v (.str "be"), D.v (.str "Be"), D.v (.str "ZZ")]) = h2 at W2 gl
    try simp -dsimp -implicitDefEqProofs only [↓rds13, ↓rds14, ↓ers, ↓rds1, ↓rds2, ↓rds3, ↓rds4, ↓rds5, ↓rds6, ↓rds7, ↓rds8, ↓rds9, ↓rds10, ↓rds11, ↓rds12, List.set_cons_zero, List.set_cons_succ, ne_eq, not_false_eq_true, decide_eq_true_eq, Bool.or_true, Bool.or_false, Bool.true_or, Bool.false_or, Bool.and_true, Bool.true_and, Bool.and_false, Bool.false_and, Bool.not_true, Bool.not_false, reduceCtorEq, beq_self_eq_true, true_and, and_true, if_true, if_false, Bool.false_eq_true]
    refine cl_i ⟨rfl, p, q, cells, 2, rfl, W2.P, by decide, by decide, fun m s m0 m1 => ?_⟩
    have W3 := W2.pool s
    have gl3 : put h2 p (poolO q s) l = some (.lst ((["", "x", "am", "ii", "iI", "s", "ss", "sss", "a ", "be", "Be", "ZZ"] : List Str).map sD)) := by rw [put_ne nla.2]; exact gl
    generalize put h2 p (poolO q s) = h3 at W3 gl3
    try simp -dsimp -implicitDefEqProofs only [↓rds13, ↓rds14, ↓ers, ↓rds1, ↓rds2, ↓rds3, ↓rds4, ↓rds5, ↓rds6, ↓rds7, ↓rds8, ↓rds9, ↓rds10, ↓rds11, ↓rds12, List.set_cons_zero, List.set_cons_succ, ne_eq, not_false_eq_true, decide_eq_true_eq, Bool.or_true, Bool.or_false, Bool.true_or, Bool.false_or, Bool.and_true, Bool.true_and, Bool.and_false, Bool.false_and, Bool.not_true, Bool.not_false, reduceCtorEq, beq_self_eq_true, true_and, and_true, if_true, if_false, Bool.false_eq_true]
    refine ⟨by omega, loop_of (fun i σ h' => ∃ ws v, Wd h h' p q r a cells kind ws (15 + i) ∧ h' l = some (.lst ((["", "x", "am", "ii", "iI", "s", "ss", "sss", "a ", "be", "Be", "ZZ"] : List Str).map sD)) ∧ σ = [some (.v (.ref p)), some (.v (.str kind)), some (.v (.ref r)), some (.v (.ref a)), none, none, none, some (.v (.ref l)), v, none]) ⟨ws, none, W3, gl3, rfl⟩ (fun _ _ _ _ _ => trivial) ?_ ?_⟩
    · rintro i x σ h' hx ⟨ws, v, W, gl, rfl⟩ N hN
      obtain ⟨hi, rfl⟩ := rangeD_get hx
      have Wa := W.ga
      have wl := W.ln
      try simp -dsimp -implicitDefEqProofs only [↓rds13, ↓rds14, ↓ers, ↓rds1, ↓rds2, ↓rds3, ↓rds4, ↓rds5, ↓rds6, ↓rds7, ↓rds8, ↓rds9, ↓rds10, ↓rds11, ↓rds12, List.set_cons_zero, List.set_cons_succ, ne_eq, not_false_eq_true, decide_eq_true_eq, Bool.or_true, Bool.or_false, Bool.true_or, Bool.false_or, Bool.and_true, Bool.true_and, Bool.and_false, Bool.false_and, Bool.not_true, Bool.not_false, reduceCtorEq, beq_self_eq_true, true_and, and_true, if_true, if_false, Bool.false_eq_true, Wa, List.length_map]
      refine cl_i ⟨rfl, p, q, cells, (ws.length : Int) + 1, rfl, W.P, by omega, log_small (by omega) (by omega), fun d s d0 d1 => ?_⟩
      have W5 := W.pool s
      have gl5 : put h' p (poolO q s) l = some (.lst ((["", "x", "am", "ii", "iI", "s", "ss", "sss", "a ", "be", "Be", "ZZ"] : List Str).map sD)) := by rw [put_ne nla.2]; exact gl
      generalize put h' p (poolO q s) = h5 at W5 gl5
      try simp -dsimp -implicitDefEqProofs only [↓rds13, ↓rds14, ↓ers, ↓rds1, ↓rds2, ↓rds3, ↓rds4, ↓rds5, ↓rds6, ↓rds7, ↓rds8, ↓rds9, ↓rds10, ↓rds11, ↓rds12, List.set_cons_zero, List.set_cons_succ, ne_eq, not_false_eq_true, decide_eq_true_eq, Bool.or_true, Bool.or_false, Bool.true_or, Bool.false_or, Bool.and_true, Bool.true_and, Bool.and_false, Bool.false_and, Bool.not_true, Bool.not_false, reduceCtorEq, beq_self_eq_true, true_and, and_true, if_true, if_false, Bool.false_eq_true]
      refine cl_i ⟨rfl, p, q, cells, 12, rfl, W5.P, by decide, by decide, fun d2 s d20 d21 => ?_⟩
      have W6 := W5.pool s
      have gl6 : put h5 p (poolO q s) l = some (.lst ((["", "x", "am", "ii", "iI", "s", "ss", "sss", "a ", "be", "Be", "ZZ"] : List Str).map sD)) := by rw [put_ne nla.2]; exact gl5
      generalize put h5 p (poolO q s) = h6 at W6 gl6
      obtain ⟨z, hz, ez⟩ := at_list (l := (["", "x", "am", "ii", "iI", "s", "ss", "sss", "a ", "be", "Be", "ZZ"] : List Str)) d20 d21
      have Wa6 := W6.ga
      try simp -dsimp -implicitDefEqProofs only [↓rds13, ↓rds14, ↓ers, ↓rds1, ↓rds2, ↓rds3, ↓rds4, ↓rds5, ↓rds6, ↓rds7, ↓rds8, ↓rds9, ↓rds10, ↓rds11, ↓rds12, List.set_cons_zero, List.set_cons_succ, ne_eq, not_false_eq_true, decide_eq_true_eq, Bool.or_true, Bool.or_false, Bool.true_or, Bool.false_or, Bool.and_true, Bool.true_and, Bool.and_false, Bool.false_and, Bool.not_true, Bool.not_false, reduceCtorEq, beq_self_eq_true, true_and, and_true, if_true, if_false, Bool.false_eq_true, gl6, ez, Wa6, List.length_map]
      refine ⟨Nat.lt_of_le_of_lt (show ws.length ≤ 100 by omega) (by decide), d0, by omega, ?_⟩
      have e : (ws.map sD).take d.toNat ++ [sD z] ++ (ws.map sD).drop d.toNat = (ws.take d.toNat ++ [z] ++ ws.drop d.toNat).map sD := by
        rw [List.map_append, List.map_append, List.map_take, List.map_drop]
        rfl
      rw [e]
      refine hN _ _ ⟨_, _, W6.set ?_ ?_, by rw [put_ne nla.1]; exact gl6, rfl⟩
      · rw [List.length_append, List.length_append, List.length_take, List.length_drop]
        simp only [List.length_cons, List.length_nil]
        omega
      · intro w hw
        rcases List.mem_append.mp hw with k | k
        · rcases List.mem_append.mp k with k | k
          · exact W6.zs w (List.mem_of_mem_take k)
          · rw [List.mem_singleton.mp k]; exact strange_len z hz
        · exact W6.zs w (List.mem_of_mem_drop k)
    · rintro σ h' ⟨ws, v, W, gl, rfl⟩
      have hl : (rangeD 0 (1 + m).toNat).length ≤ 5 := by unfold rangeD; rw [List.length_map, List.length_range]; omega
      exact w3_ok hk ret (W.more (by omega))
  · exact w3_ok hk ret (W1.more (by omega))
theorem ok_law_words_hold : ∀ ds h Q E, sp_law_words_hold ds h Q E → rd_law_words_hold (fun x _ h' => E x h') (fin Q) (startD N_law_words_hold ds) h := by
  rintro ds h Q E ⟨_, p, q, cells, kind, rfl, P, hk, ret⟩
  show rd_law_words_hold _ _ [some (.v (.ref p)), some (.v (.str kind)), none, none, none, none, none, none, none, none] h
  unfold rd_law_words_hold
  obtain ⟨wn1, wn2⟩ := ws_ne hk
  try simp -dsimp -implicitDefEqProofs only [↓rds13, ↓rds14, ↓ers, ↓rds1, ↓rds2, ↓rds3, ↓rds4, ↓rds5, ↓rds6, ↓rds7, ↓rds8, ↓rds9, ↓rds10, ↓rds11, ↓rds12, List.set_cons_zero, List.set_cons_succ, ne_eq, not_false_eq_true, decide_eq_true_eq, Bool.or_true, Bool.or_false, Bool.true_or, Bool.false_or, Bool.and_true, Bool.true_and, Bool.and_false, Bool.false_and, Bool.not_true, Bool.not_false, reduceCtorEq, beq_self_eq_true, true_and, and_true, if_true, if_false, Bool.false_eq_true]
  refine cl_i ⟨rfl, kind, rfl, hk, fun r hr => ?_⟩
  have nr := pool_ne P hr
  have P1 := pool_keep (o := .lst ((wsL kind).map sD)) P hr
  have x1 : SubX p h (put h r (.lst ((wsL kind).map sD))) := (SubX.refl p h).new hr
  have g1 : put h r (.lst ((wsL kind).map sD)) r = some (.lst ((wsL kind).map sD)) := put_same
  generalize put h r (.lst ((wsL kind).map sD)) = h1 at P1 x1 g1
  try simp -dsimp -implicitDefEqProofs only [↓rds13, ↓rds14, ↓ers, ↓rds1, ↓rds2, ↓rds3, ↓rds4, ↓rds5, ↓rds6, ↓rds7, ↓rds8, ↓rds9, ↓rds10, ↓rds11, ↓rds12, List.set_cons_zero, List.set_cons_succ, ne_eq, not_false_eq_true, decide_eq_true_eq, Bool.or_true, Bool.or_false, Bool.true_or, Bool.false_or, Bool.and_true, Bool.true_and, Bool.and_false, Bool.false_and, Bool.not_true, Bool.not_false, reduceCtorEq, beq_self_eq_true, true_and, and_true, if_true, if_false, Bool.false_eq_true]
  refine cl_i ⟨rfl, p, q, cells, 15, rfl, P1, by decide, by decide, fun m s m0 m1 => ?_⟩
  have P3 := pool_put P1 s
  have x3 := x1.set (o := poolO q s)
  have g3 : put h1 p (poolO q s) r = some (.lst ((wsL kind).map sD)) := by rw [put_ne nr.1]; exact g1
  generalize put h1 p (poolO q s) = h3 at P3 x3 g3
  try simp -dsimp -implicitDefEqProofs only [↓rds13, ↓rds14, ↓ers, ↓rds1, ↓rds2, ↓rds3, ↓rds4, ↓rds5, ↓rds6, ↓rds7, ↓rds8, ↓rds9, ↓rds10, ↓rds11, ↓rds12, List.set_cons_zero, List.set_cons_succ, ne_eq, not_false_eq_true, decide_eq_true_eq, Bool.or_true, Bool.or_false, Bool.true_or, Bool.false_or, Bool.and_true, Bool.true_and, Bool.and_false, Bool.false_and, Bool.not_true, Bool.not_false, reduceCtorEq, beq_self_eq_true, true_and, and_true, if_true, if_false, Bool.false_eq_true]
  have lr : (rangeD 0 m.toNat).length ≤ 14 := by unfold rangeD; rw [List.length_map, List.length_range]; omega
  refine ⟨by omega, cmp_inv (fun acc h' => PoolAt h' p q cells ∧ SubX p h h' ∧ h' r = some (.lst ((wsL kind).map sD)) ∧ ∃ ws : List Str, acc = ws.map sD ∧ ∀ w ∈ ws, w ∈ wsL kind) ⟨P3, x3, g3, [], rfl, by simp⟩ (fun _ _ _ => trivial) (by omega) ?_ ?_⟩
  · rintro x acc h' hx ⟨P, xx, g, ws, rfl, hw⟩ la S N hS
    try simp -dsimp -implicitDefEqProofs only [↓rds13, ↓rds14, ↓ers, ↓rds1, ↓rds2, ↓rds3, ↓rds4, ↓rds5, ↓rds6, ↓rds7, ↓rds8, ↓rds9, ↓rds10, ↓rds11, ↓rds12, List.set_cons_zero, List.set_cons_succ, ne_eq, not_false_eq_true, decide_eq_true_eq, Bool.or_true, Bool.or_false, Bool.true_or, Bool.false_or, Bool.and_true, Bool.true_and, Bool.and_false, Bool.false_and, Bool.not_true, Bool.not_false, reduceCtorEq, beq_self_eq_true, true_and, and_true, if_true, if_false, Bool.false_eq_true, g, List.length_map]
    refine cl_i ⟨rfl, p, q, cells, ((wsL kind).length : Int), rfl, P, by omega, log_small (by omega) (by omega), fun k2 s2 k20 k21 => ?_⟩
    obtain ⟨z, hz, ez⟩ := at_list k20 k21
    have g' : put h' p (poolO q s2) r = some (.lst ((wsL kind).map sD)) := by rw [put_ne nr.1]; exact g
    try simp -dsimp -implicitDefEqProofs only [↓rds13, ↓rds14, ↓ers, ↓rds1, ↓rds2, ↓rds3, ↓rds4, ↓rds5, ↓rds6, ↓rds7, ↓rds8, ↓rds9, ↓rds10, ↓rds11, ↓rds12, List.set_cons_zero, List.set_cons_succ, ne_eq, not_false_eq_true, decide_eq_true_eq, Bool.or_true, Bool.or_false, Bool.true_or, Bool.false_or, Bool.and_true, Bool.true_and, Bool.and_false, Bool.false_and, Bool.not_true, Bool.not_false, reduceCtorEq, beq_self_eq_true, true_and, and_true, if_true, if_false, Bool.false_eq_true, g', ez]
    refine hS _ _ ⟨pool_put P s2, xx.set, g', ws ++ [z], by rw [List.map_append]; rfl, fun w hw' => ?_⟩
    rcases List.mem_append.mp hw' with k | k
    · exact hw w k
    · rw [List.mem_singleton.mp k]; exact hz
  rintro acc h4 lacc ⟨P, xx, g, ws, rfl, hw⟩
  rw [List.length_map] at lacc
  intro a hf
  have na := pool_ne P hf
  have fr : h a = none := by
    cases e : h a with
    | none => rfl
    | some o => rw [xx a o na.1 e] at hf; cases hf
  have W : Wd h (put h4 a (.lst (ws.map sD))) p q r a cells kind ws 15 := ⟨pool_keep P hf, xx.new hf, by rw [put_ne (on g hf)]; exact g, put_same, by omega, fun w hw' => by have := ws_len hk (hw w hw'); omega, fr, na.1, na.2, on g hf, nr.1⟩
  generalize put h4 a (.lst (ws.map sD)) = h5 at W
  have Wa := W.ga
  try simp -dsimp -implicitDefEqProofs only [↓rds13, ↓rds14, ↓ers, ↓rds1, ↓rds2, ↓rds3, ↓rds4, ↓rds5, ↓rds6, ↓rds7, ↓rds8, ↓rds9, ↓rds10, ↓rds11, ↓rds12, List.set_cons_zero, List.set_cons_succ, ne_eq, not_false_eq_true, decide_eq_true_eq, Bool.or_true, Bool.or_false, Bool.true_or, Bool.false_or, Bool.and_true, Bool.true_and, Bool.and_false, Bool.false_and, Bool.not_true, Bool.not_false, reduceCtorEq, beq_self_eq_true, true_and, and_true, if_true, if_false, Bool.false_eq_true, Wa, List.length_map]
  refine dIte_by (fun e => ?_) fun e => ?_
  · try simp -dsimp -implicitDefEqProofs only [↓rds13, ↓rds14, ↓ers, ↓rds1, ↓rds2, ↓rds3, ↓rds4, ↓rds5, ↓rds6, ↓rds7, ↓rds8, ↓rds9, ↓rds10, ↓rds11, ↓rds12, List.set_cons_zero, List.set_cons_succ, ne_eq, not_false_eq_true, decide_eq_true_eq, Bool.or_true, Bool.or_false, Bool.true_or, Bool.false_or, Bool.and_true, Bool.true_and, Bool.and_false, Bool.false_and, Bool.not_true, Bool.not_false, reduceCtorEq, beq_self_eq_true, true_and, and_true, if_true, if_false, Bool.false_eq_true]
    refine cl_i ⟨rfl, p, q, cells, 2, rfl, W.P, by decide, by decide, fun k s k0 k1 => ?_⟩
    have W1 := W.pool s
    generalize put h5 p (poolO q s) = h6 at W1
    have Wa := W1.ga
    try simp -dsimp -implicitDefEqProofs only [↓rds13, ↓rds14, ↓ers, ↓rds1, ↓rds2, ↓rds3, ↓rds4, ↓rds5, ↓rds6, ↓rds7, ↓rds8, ↓rds9, ↓rds10, ↓rds11, ↓rds12, List.set_cons_zero, List.set_cons_succ, ne_eq, not_false_eq_true, decide_eq_true_eq, Bool.or_true, Bool.or_false, Bool.true_or, Bool.false_or, Bool.and_true, Bool.true_and, Bool.and_false, Bool.false_and, Bool.not_true, Bool.not_false, reduceCtorEq, beq_self_eq_true, true_and, and_true, if_true, if_false, Bool.false_eq_true]
    refine dIte_by (fun e => ?_) fun e => ?_
    · obtain ⟨w0, rr, e0⟩ : ∃ w0 rr, ws = w0 :: rr := by
        cases ws with
        | nil => simp at e
        | cons a r => exact ⟨a, r, rfl⟩
      have m0 : w0 ∈ ws := by rw [e0]; exact List.mem_cons_self
      have Wb := Wa
      rw [e0, List.map_cons] at Wb
      have el : (((sD w0 :: List.map sD rr).length : Nat) : Int) = (ws.length : Int) := by rw [e0]; simp
      try simp -dsimp -implicitDefEqProofs only [↓rds13, ↓rds14, ↓ers, ↓rds1, ↓rds2, ↓rds3, ↓rds4, ↓rds5, ↓rds6, ↓rds7, ↓rds8, ↓rds9, ↓rds10, ↓rds11, ↓rds12, List.set_cons_zero, List.set_cons_succ, ne_eq, not_false_eq_true, decide_eq_true_eq, Bool.or_true, Bool.or_false, Bool.true_or, Bool.false_or, Bool.and_true, Bool.true_and, Bool.and_false, Bool.false_and, Bool.not_true, Bool.not_false, reduceCtorEq, beq_self_eq_true, true_and, and_true, if_true, if_false, Bool.false_eq_true, Wb]
      rw [el]
      refine cl_i ⟨rfl, p, q, cells, (ws.length : Int), rfl, W1.P, by omega, log_small (by omega) (by omega), fun d s d0 d1 => ?_⟩
      have W7 := W1.pool s
      generalize put h6 p (poolO q s) = h7 at W7
      obtain ⟨j, rfl⟩ := Int.eq_ofNat_of_zero_le d0
      have hj : j < (ws.map sD).length := by rw [List.length_map]; omega
      have Wc := W7.ga
      have ej := ixN_n hj
      have em : (ws.map sD).set j (sD w0) = (ws.set j w0).map sD := by rw [List.map_set]
      have t := w2_ok (E := E) hk ret (W7.set (vs := ws.set j w0) (m := 15) (by rw [List.length_set]; exact W7.ln) fun w hw => by
        rcases List.mem_or_eq_of_mem_set hw with k | k
        · exact W7.zs w k
        · rw [k]; exact W7.zs w0 m0)
      unfold w2 at t
      revert t
      try simp -dsimp -implicitDefEqProofs only [↓rds13, ↓rds14, ↓ers, ↓rds1, ↓rds2, ↓rds3, ↓rds4, ↓rds5, ↓rds6, ↓rds7, ↓rds8, ↓rds9, ↓rds10, ↓rds11, ↓rds12, List.set_cons_zero, List.set_cons_succ, ne_eq, not_false_eq_true, decide_eq_true_eq, Bool.or_true, Bool.or_false, Bool.true_or, Bool.false_or, Bool.and_true, Bool.true_and, Bool.and_false, Bool.false_and, Bool.not_true, Bool.not_false, reduceCtorEq, beq_self_eq_true, true_and, and_true, if_true, if_false, Bool.false_eq_true, Wc, ej, em]
      exact fun t => t
    · exact w2_ok hk ret W1
  · exact w2_ok hk ret W
/-! ### spoilt lots -/
def sp_law_spoilt : SpD := fun ds h Q _ => ds.length = 3 ∧ ∃ (p q : Addr) (cells : List Int) (kind : Str) (ws : List Str), ds = [.v (.ref p), .v (.str kind), .t (ws.map sD)] ∧ PoolAt h p q cells ∧ kind ∈ kds ∧ Lot kind ws ∧ ∀ (d : D) (h' : Hd), PoolAt h' p q cells → KnV h' d → SubX p h h' → Q d h'
def rd_law_spoilt (E : ER) : SD :=
  dSeq (dAsg (dCall sp_law_ways E (dCons (dVar 1) (dNil))) (nG 3))
  (dSeq (dAsg (dCB cList (dCons (dVar 2) (dNil))) (nG 4))
  (dSeq (dAsg (dCall sp_law_draw E (dCons (dVar 0) (dCons (dC (.v (.int 10))) (dNil)))) (nG 5))
  (dSeq (dAsg (dCall sp_law_draw E (dCons (dVar 0) (dCons (d2 pAdd (dCB cLen (dCons (dVar 4) (dNil))) (dC (.v (.int 1)))) (dNil)))) (nG 6))
  (dSeq (dIfS (dTest (d2 pEqA (dVar 5) (dC (.v (.int 0))))) (dRet (dVar 4)) (dNext))
  (dSeq (dIfS (dTest (d2 pEqA (dVar 5) (dC (.v (.int 1))))) (dSeq (dAsg (d2 pIt (dLst (dCons (dC (.v (.str "x"))) (dCons (dC (.v (.str ""))) (dCons (dC (.v (.int 3))) (dCons (dC (.v .non)) (dCons (dC (.v (.bl true))) (dCons (dTup (dCons (dC (.v (.str "a"))) (dNil))) (dCons (dLst (dCons (dC (.v (.str "a"))) (dNil))) (dCons (dC (.v (.str "line"))) (dCons (dC (.v (.str "aaa"))) (dCons (dTup (dNil)) (dNil)))))))))))) (dCall sp_law_draw E (dCons (dVar 0) (dCons (dC (.v (.int 10))) (dNil))))) (nG 7))
  (dRet (dCB cTuple (dCons (d2 pAdd (d2 pAdd (dSl (dVar 4) (dNoPart) (dPart (dVar 6))) (dLst (dCons (dVar 7) (dNil)))) (dSl (dVar 4) (dPart (dVar 6)) (dNoPart))) (dNil))))) (dNext))
  (dSeq (dIfS (dTest (d2 pEqA (dVar 5) (dC (.v (.int 2))))) (dRet (dCB cTuple (dCons (d2 pAdd (dSl (dVar 4) (dPart (dVar 6)) (dNoPart)) (dSl (dVar 4) (dNoPart) (dPart (dVar 6)))) (dNil)))) (dNext))
  (dSeq (dIfS (dTest (d2 pEqA (dVar 5) (dC (.v (.int 3))))) (dRet (dCB cTuple (dCons (d2 pAdd (dSl (dVar 4) (dNoPart) (dPart (dVar 6))) (dSl (dVar 4) (dPart (dCB cMax (dCons (dC (.v (.int 0))) (dCons (d2 pSub (dVar 6) (dC (.v (.int 1)))) (dNil))))) (dNoPart))) (dNil)))) (dNext))
  (dSeq (dIfS (dTest (d2 pEqA (dVar 5) (dC (.v (.int 4))))) (dRet (dBM "str" mJoin (dC (.v (.str ""))) (dCons (dVar 4) (dNil)))) (dNext))
  (dSeq (dIfS (dOr (dTest (d2 pEqA (dVar 5) (dC (.v (.int 5))))) (dTest (d2 pEqA (dVar 5) (dC (.v (.int 6)))))) (dRet (dCB cTuple (dCons (d2 pAdd (d2 pAdd (dSl (dVar 4) (dNoPart) (dPart (dVar 6))) (dLst (dCons (d2 pIt (dVar 3) (dCall sp_law_draw E (dCons (dVar 0) (dCons (dCB cLen (dCons (dVar 3) (dNil))) (dNil))))) (dNil)))) (dSl (dVar 4) (dPart (dVar 6)) (dNoPart))) (dNil)))) (dNext))
  (dSeq (dIfS (dTest (d2 pEqA (dVar 5) (dC (.v (.int 7))))) (dRet (d2 pIt (dLst (dCons (dC (.v .non)) (dCons (dC (.v (.int 0))) (dCons (dC (.v (.str "a"))) (dCons (dLst (dNil)) (dCons (dTup (dCons (dC (.v (.str "be"))) (dCons (dC (.v (.str "bi"))) (dNil)))) (dCons (dTup (dCons (dTup (dCons (dC (.v (.str "a"))) (dNil))) (dCons (dTup (dNil)) (dNil)))) (dNil)))))))) (dCall sp_law_draw E (dCons (dVar 0) (dCons (dC (.v (.int 6))) (dNil)))))) (dNext))
  (dRet (dCB cTuple (dCons (d2 pAdd (dSl (dVar 4) (dNoPart) (dPart (dVar 6))) (dSl (dVar 4) (dPart (d2 pAdd (dVar 6) (dC (.v (.int 1))))) (dNoPart))) (dNil))))))))))))))
abbrev N_law_spoilt : List Str := ["pool", "kind", "lot", "every", "row", "choice", "at", "strange"]
theorem knV_t {h : Hd} {xs : List D} (hl : xs.length ≤ 1000) (hx : ∀ x ∈ xs, Kn h x ∧ ∀ z, x = sD z → z.length ≤ 1000) : KnV h (.t xs) := ⟨trivial, fun ys e => by cases e; exact ⟨hl, hx⟩⟩
theorem kn_sD {h : Hd} {z : Str} (hz : z.length ≤ 1000) : Kn h (sD z) ∧ ∀ y, sD z = sD y → y.length ≤ 1000 := ⟨trivial, fun y e => by cases e; exact hz⟩
theorem pool_up {h h' : Hd} {p q : Addr} {cells : List Int} (P : PoolAt h p q cells) (s : Sub h h') : PoolAt h' p q cells := ⟨by obtain ⟨st, g⟩ := P.st; exact ⟨st, s _ _ g⟩, s _ _ P.cl, P.ne, P.ln⟩
theorem on_pool {h : Hd} {p q b : Addr} {cells : List Int} {xs : List D} (P : PoolAt h p q cells) (e : h b = some (.lst xs)) (hx : xs.length ≠ 4 := by decide) : b ≠ p := fun z => by
  obtain ⟨st, g⟩ := P.st
  rw [z, g] at e
  cases e
  exact hx rfl
theorem at_mem2 {l : List D} {k : Int} {n : Nat} (hl : l.length = n) (k0 : 0 ≤ k) (k1 : k < n) : ∃ c ∈ l, atI l k = some c := by
  obtain ⟨j, rfl⟩ := Int.eq_ofNat_of_zero_le k0
  have hj : j < l.length := by omega
  exact ⟨l[j], List.getElem_mem hj, atI_nat (List.getElem?_eq_getElem hj)⟩
theorem ok_law_spoilt : ∀ ds h Q E, sp_law_spoilt ds h Q E → rd_law_spoilt (fun x _ h' => E x h') (fin Q) (startD N_law_spoilt ds) h := by
  rintro ds h Q E ⟨_, p, q, cells, kind, ws, rfl, P, hk, lw, ret⟩
  show rd_law_spoilt _ _ [some (.v (.ref p)), some (.v (.str kind)), some (.t (ws.map sD)), none, none, none, none, none] h
  unfold rd_law_spoilt
  obtain ⟨wn1, wn2⟩ := ws_ne hk
  have wl := lw.len hk
  have big : ∀ n, n ≤ 1000 → n ≤ sizeLine := fun n hn => Nat.le_trans hn (by decide)
  try simp -dsimp -implicitDefEqProofs only [↓rds13, ↓rds14, ↓ers, ↓rds1, ↓rds2, ↓rds3, ↓rds4, ↓rds5, ↓rds6, ↓rds7, ↓rds8, ↓rds9, ↓rds10, ↓rds11, ↓rds12, List.set_cons_zero, List.set_cons_succ, ne_eq, not_false_eq_true, decide_eq_true_eq, Bool.or_true, Bool.or_false, Bool.true_or, Bool.false_or, Bool.and_true, Bool.true_and, Bool.and_false, Bool.false_and, Bool.not_true, Bool.not_false, reduceCtorEq, beq_self_eq_true, true_and, and_true, if_true, if_false, Bool.false_eq_true]
  refine cl_i ⟨rfl, kind, rfl, hk, fun r hr => ?_⟩
  have nr := pool_ne P hr
  have P1 := pool_keep (o := .lst ((wsL kind).map sD)) P hr
  have x1 : SubX p h (put h r (.lst ((wsL kind).map sD))) := (SubX.refl p h).new hr
  have g1 : put h r (.lst ((wsL kind).map sD)) r = some (.lst ((wsL kind).map sD)) := put_same
  generalize put h r (.lst ((wsL kind).map sD)) = h1 at P1 x1 g1
  try simp -dsimp -implicitDefEqProofs only [↓rds13, ↓rds14, ↓ers, ↓rds1, ↓rds2, ↓rds3, ↓rds4, ↓rds5, ↓rds6, ↓rds7, ↓rds8, ↓rds9, ↓rds10, ↓rds11, ↓rds12, List.set_cons_zero, List.set_cons_succ, ne_eq, not_false_eq_true, decide_eq_true_eq, Bool.or_true, Bool.or_false, Bool.true_or, Bool.false_or, Bool.and_true, Bool.true_and, Bool.and_false, Bool.false_and, Bool.not_true, Bool.not_false, reduceCtorEq, beq_self_eq_true, true_and, and_true, if_true, if_false, Bool.false_eq_true]
  refine al_i fun a ha => ?_
  have na := pool_ne P1 ha
  have P2 := pool_keep (o := .lst (ws.map sD)) P1 ha
  have x2 := x1.new (o := .lst (ws.map sD)) ha
  have g2 : put h1 a (.lst (ws.map sD)) r = some (.lst ((wsL kind).map sD)) := by rw [put_ne (on g1 ha)]; exact g1
  have a2 : put h1 a (.lst (ws.map sD)) a = some (.lst (ws.map sD)) := put_same
  generalize put h1 a (.lst (ws.map sD)) = h2 at P2 x2 g2 a2
  try simp -dsimp -implicitDefEqProofs only [↓rds13, ↓rds14, ↓ers, ↓rds1, ↓rds2, ↓rds3, ↓rds4, ↓rds5, ↓rds6, ↓rds7, ↓rds8, ↓rds9, ↓rds10, ↓rds11, ↓rds12, List.set_cons_zero, List.set_cons_succ, ne_eq, not_false_eq_true, decide_eq_true_eq, Bool.or_true, Bool.or_false, Bool.true_or, Bool.false_or, Bool.and_true, Bool.true_and, Bool.and_false, Bool.false_and, Bool.not_true, Bool.not_false, reduceCtorEq, beq_self_eq_true, true_and, and_true, if_true, if_false, Bool.false_eq_true]
  refine cl_i ⟨rfl, p, q, cells, 10, rfl, P2, by decide, by decide, fun k s k0 k1 => ?_⟩
  have P3 := pool_put P2 s
  have x3 := x2.set (o := poolO q s)
  have g3 : put h2 p (poolO q s) r = some (.lst ((wsL kind).map sD)) := by rw [put_ne nr.1]; exact g2
  have a3 : put h2 p (poolO q s) a = some (.lst (ws.map sD)) := by rw [put_ne na.1]; exact a2
  generalize put h2 p (poolO q s) = h3 at P3 x3 g3 a3
  try simp -dsimp -implicitDefEqProofs only [↓rds13, ↓rds14, ↓ers, ↓rds1, ↓rds2, ↓rds3, ↓rds4, ↓rds5, ↓rds6, ↓rds7, ↓rds8, ↓rds9, ↓rds10, ↓rds11, ↓rds12, List.set_cons_zero, List.set_cons_succ, ne_eq, not_false_eq_true, decide_eq_true_eq, Bool.or_true, Bool.or_false, Bool.true_or, Bool.false_or, Bool.and_true, Bool.true_and, Bool.and_false, Bool.false_and, Bool.not_true, Bool.not_false, reduceCtorEq, beq_self_eq_true, true_and, and_true, if_true, if_false, Bool.false_eq_true, a3, List.length_map]
  refine cl_i ⟨rfl, p, q, cells, (ws.length : Int) + 1, rfl, P3, by omega, log_small (by omega) (by omega), fun d s d0 d1 => ?_⟩
  have P4 := pool_put P3 s
  have x4 := x3.set (o := poolO q s)
  have g4 : put h3 p (poolO q s) r = some (.lst ((wsL kind).map sD)) := by rw [put_ne nr.1]; exact g3
  have a4 : put h3 p (poolO q s) a = some (.lst (ws.map sD)) := by rw [put_ne na.1]; exact a3
  generalize put h3 p (poolO q s) = h4 at P4 x4 g4 a4
  have kw : ∀ (h' : Hd) (x : D), x ∈ ws.map sD → Kn h' x ∧ ∀ z, x = sD z → z.length ≤ 1000 := fun h' x hx => by
    obtain ⟨w, hw, rfl⟩ := List.mem_map.mp hx
    exact kn_sD (by have := ws_len hk (lw.mem hw); omega)
  try simp -dsimp -implicitDefEqProofs only [↓rds13, ↓rds14, ↓ers, ↓rds1, ↓rds2, ↓rds3, ↓rds4, ↓rds5, ↓rds6, ↓rds7, ↓rds8, ↓rds9, ↓rds10, ↓rds11, ↓rds12, List.set_cons_zero, List.set_cons_succ, ne_eq, not_false_eq_true, decide_eq_true_eq, Bool.or_true, Bool.or_false, Bool.true_or, Bool.false_or, Bool.and_true, Bool.true_and, Bool.and_false, Bool.false_and, Bool.not_true, Bool.not_false, reduceCtorEq, beq_self_eq_true, true_and, and_true, if_true, if_false, Bool.false_eq_true]
  refine dIte_by (fun e => ?_) fun e => ?_
  · try simp -dsimp -implicitDefEqProofs only [↓rds13, ↓rds14, ↓ers, ↓rds1, ↓rds2, ↓rds3, ↓rds4, ↓rds5, ↓rds6, ↓rds7, ↓rds8, ↓rds9, ↓rds10, ↓rds11, ↓rds12, List.set_cons_zero, List.set_cons_succ, ne_eq, not_false_eq_true, decide_eq_true_eq, Bool.or_true, Bool.or_false, Bool.true_or, Bool.false_or, Bool.and_true, Bool.true_and, Bool.and_false, Bool.false_and, Bool.not_true, Bool.not_false, reduceCtorEq, beq_self_eq_true, true_and, and_true, if_true, if_false, Bool.false_eq_true]
    exact finR (ret _ _ P4 ⟨⟨_, a4⟩, fun xs e => by cases e⟩ x4)
  try simp -dsimp -implicitDefEqProofs only [↓rds13, ↓rds14, ↓ers, ↓rds1, ↓rds2, ↓rds3, ↓rds4, ↓rds5, ↓rds6, ↓rds7, ↓rds8, ↓rds9, ↓rds10, ↓rds11, ↓rds12, List.set_cons_zero, List.set_cons_succ, ne_eq, not_false_eq_true, decide_eq_true_eq, Bool.or_true, Bool.or_false, Bool.true_or, Bool.false_or, Bool.and_true, Bool.true_and, Bool.and_false, Bool.false_and, Bool.not_true, Bool.not_false, reduceCtorEq, beq_self_eq_true, true_and, and_true, if_true, if_false, Bool.false_eq_true]
  have cm : ∀ (l : List D) (lo hi : Option Int) (x : D), x ∈ cutD l lo hi → x ∈ l := fun l lo hi x hx => by
    unfold cutD at hx
    exact List.mem_of_mem_drop (List.mem_of_mem_take hx)
  have cl1 : ∀ (lo hi : Option Int), (cutD (ws.map sD) lo hi).length ≤ 169 := fun lo hi => by
    unfold cutD
    rw [List.length_take, List.length_drop, List.length_map]
    omega
  have two : ∀ (lo hi lo2 hi2 : Option Int) (ys : List D) (h' : Hd), ys.length ≤ 2 → (∀ x ∈ ys, Kn h' x ∧ ∀ z, x = sD z → z.length ≤ 1000) → KnV h' (.t (cutD (ws.map sD) lo hi ++ ys ++ cutD (ws.map sD) lo2 hi2)) := fun lo hi lo2 hi2 ys h' hl hy => by
    have c1 := cl1 lo hi
    have c2 := cl1 lo2 hi2
    refine knV_t ?_ fun x hx => ?_
    · rw [List.length_append, List.length_append]; omega
    · rcases List.mem_append.mp hx with k | k
      · rcases List.mem_append.mp k with k | k
        · exact kw _ x (cm _ _ _ x k)
        · exact hy x k
      · exact kw _ x (cm _ _ _ x k)
  have two0 : ∀ (lo hi lo2 hi2 : Option Int) (h' : Hd), KnV h' (.t (cutD (ws.map sD) lo hi ++ cutD (ws.map sD) lo2 hi2)) := fun lo hi lo2 hi2 h' => by
    have := two lo hi lo2 hi2 [] h' (by simp) (by simp)
    rw [List.append_nil] at this
    exact this
  refine dIte_by (fun e => ?_) fun e => ?_
  · try simp -dsimp -implicitDefEqProofs only [↓rds13, ↓rds14, ↓ers, ↓rds1, ↓rds2, ↓rds3, ↓rds4, ↓rds5, ↓rds6, ↓rds7, ↓rds8, ↓rds9, ↓rds10, ↓rds11, ↓rds12, List.set_cons_zero, List.set_cons_succ, ne_eq, not_false_eq_true, decide_eq_true_eq, Bool.or_true, Bool.or_false, Bool.true_or, Bool.false_or, Bool.and_true, Bool.true_and, Bool.and_false, Bool.false_and, Bool.not_true, Bool.not_false, reduceCtorEq, beq_self_eq_true, true_and, and_true, if_true, if_false, Bool.false_eq_true]
    refine al_i fun b1 hb1 => ?_
    try simp -dsimp -implicitDefEqProofs only [↓rds13, ↓rds14, ↓ers, ↓rds1, ↓rds2, ↓rds3, ↓rds4, ↓rds5, ↓rds6, ↓rds7, ↓rds8, ↓rds9, ↓rds10, ↓rds11, ↓rds12, List.set_cons_zero, List.set_cons_succ, ne_eq, not_false_eq_true, decide_eq_true_eq, Bool.or_true, Bool.or_false, Bool.true_or, Bool.false_or, Bool.and_true, Bool.true_and, Bool.and_false, Bool.false_and, Bool.not_true, Bool.not_false, reduceCtorEq, beq_self_eq_true, true_and, and_true, if_true, if_false, Bool.false_eq_true]
    refine al_i fun b2 hb2 => ?_
    have P5 := pool_keep (o := .lst [D.v (.str "a")]) P4 hb1
    have x5 := x4.new (o := .lst [D.v (.str "a")]) hb1
    have a5 : put h4 b1 (.lst [D.v (.str "a")]) a = some (.lst (ws.map sD)) := by rw [put_ne (on a4 hb1)]; exact a4
    have k5 : put h4 b1 (.lst [D.v (.str "a")]) b1 = some (.lst [D.v (.str "a")]) := put_same
    have sb1 : Sub h4 (put h4 b1 (.lst [D.v (.str "a")])) := Sub.put hb1
    generalize put h4 b1 (.lst [D.v (.str "a")]) = h5 at *
    have sb2 : Sub h5 (put h5 b2 (.lst [D.v (.str "x"), D.v (.str ""), D.v (.int 3), D.v .non, D.v (.bl true), D.t [D.v (.str "a")], D.v (.ref b1), D.v (.str "line"), D.v (.str "aaa"), D.t []])) := Sub.put hb2
    have L2 : put h5 b2 (.lst [D.v (.str "x"), D.v (.str ""), D.v (.int 3), D.v .non, D.v (.bl true), D.t [D.v (.str "a")], D.v (.ref b1), D.v (.str "line"), D.v (.str "aaa"), D.t []]) b2 = some (.lst [D.v (.str "x"), D.v (.str ""), D.v (.int 3), D.v .non, D.v (.bl true), D.t [D.v (.str "a")], D.v (.ref b1), D.v (.str "line"), D.v (.str "aaa"), D.t []]) := put_same
    have nb2 := pool_ne P5 hb2
    generalize put h5 b2 (.lst [D.v (.str "x"), D.v (.str ""), D.v (.int 3), D.v .non, D.v (.bl true), D.t [D.v (.str "a")], D.v (.ref b1), D.v (.str "line"), D.v (.str "aaa"), D.t []]) = h6 at *
    have P6 := pool_up P5 sb2
    try simp -dsimp -implicitDefEqProofs only [↓rds13, ↓rds14, ↓ers, ↓rds1, ↓rds2, ↓rds3, ↓rds4, ↓rds5, ↓rds6, ↓rds7, ↓rds8, ↓rds9, ↓rds10, ↓rds11, ↓rds12, List.set_cons_zero, List.set_cons_succ, ne_eq, not_false_eq_true, decide_eq_true_eq, Bool.or_true, Bool.or_false, Bool.true_or, Bool.false_or, Bool.and_true, Bool.true_and, Bool.and_false, Bool.false_and, Bool.not_true, Bool.not_false, reduceCtorEq, beq_self_eq_true, true_and, and_true, if_true, if_false, Bool.false_eq_true]
    refine cl_i ⟨rfl, p, q, cells, 10, rfl, P6, by decide, by decide, fun n s n0 n1 => ?_⟩
    have P7 := pool_put P6 s
    have x7 := (x5.sub sb2).set (o := poolO q s)
    have k7 : put h6 p (poolO q s) b1 = some (.lst [D.v (.str "a")]) := by rw [put_ne (on_pool P6 (sb2 _ _ k5))]; exact sb2 _ _ k5
    have a7 : put h6 p (poolO q s) a = some (.lst (ws.map sD)) := by rw [put_ne na.1]; exact sb2 _ _ a5
    have L7 : put h6 p (poolO q s) b2 = _ := (put_ne nb2.1).trans L2
    generalize put h6 p (poolO q s) = h7 at *
    obtain ⟨y, hy, ey⟩ := at_mem2 (l := [D.v (.str "x"), D.v (.str ""), D.v (.int 3), D.v .non, D.v (.bl true), D.t [D.v (.str "a")], D.v (.ref b1), D.v (.str "line"), D.v (.str "aaa"), D.t []]) (n := 10) rfl n0 n1
    have P7' : PoolAt h7 p q cells := P7
    have ky : ∀ h', Sub h7 h' → Kn h' y ∧ ∀ z, y = sD z → z.length ≤ 1000 := fun h' S => by
      simp only [List.mem_cons, List.not_mem_nil, or_false] at hy
      rcases hy with rfl | rfl | rfl | rfl | rfl | rfl | rfl | rfl | rfl | rfl
      · exact kn_sD (by decide)
      · exact kn_sD (by decide)
      · exact ⟨trivial, fun z e => by cases e⟩
      · exact ⟨trivial, fun z e => by cases e⟩
      · exact ⟨trivial, fun z e => by cases e⟩
      · exact ⟨trivial, fun z e => by cases e⟩
      · exact ⟨⟨_, S _ _ k7⟩, fun z e => by cases e⟩
      · exact kn_sD (by decide)
      · exact kn_sD (by decide)
      · exact ⟨trivial, fun z e => by cases e⟩
    try simp -dsimp -implicitDefEqProofs only [↓rds13, ↓rds14, ↓ers, ↓rds1, ↓rds2, ↓rds3, ↓rds4, ↓rds5, ↓rds6, ↓rds7, ↓rds8, ↓rds9, ↓rds10, ↓rds11, ↓rds12, List.set_cons_zero, List.set_cons_succ, ne_eq, not_false_eq_true, decide_eq_true_eq, Bool.or_true, Bool.or_false, Bool.true_or, Bool.false_or, Bool.and_true, Bool.true_and, Bool.and_false, Bool.false_and, Bool.not_true, Bool.not_false, reduceCtorEq, beq_self_eq_true, true_and, and_true, if_true, if_false, Bool.false_eq_true, L7, ey, a7]
    refine al_i fun b hb => al_i fun c hc => ?_
    have nbc := nf hc
    have nbc2 := nbc.symm
    try simp -dsimp -implicitDefEqProofs only [↓rds13, ↓rds14, ↓ers, ↓rds1, ↓rds2, ↓rds3, ↓rds4, ↓rds5, ↓rds6, ↓rds7, ↓rds8, ↓rds9, ↓rds10, ↓rds11, ↓rds12, List.set_cons_zero, List.set_cons_succ, ne_eq, not_false_eq_true, decide_eq_true_eq, Bool.or_true, Bool.or_false, Bool.true_or, Bool.false_or, Bool.and_true, Bool.true_and, Bool.and_false, Bool.false_and, Bool.not_true, Bool.not_false, reduceCtorEq, beq_self_eq_true, true_and, and_true, if_true, if_false, Bool.false_eq_true, nbc, nbc2]
    have c1 := cl1 none (some d)
    have c2 := cl1 (some d) none
    refine ⟨big _ (by rw [List.length_singleton]; omega), al_i fun e1 he1 => ?_⟩
    have S8 : Sub h7 _ := (Sub.put hb).trans ((Sub.put hc).trans (Sub.put (o := .lst (cutD (ws.map sD) none (some d) ++ [y])) he1))
    have e8 : put (put (put h7 b (.lst (cutD (ws.map sD) none (some d)))) c (.lst [y])) e1 (.lst (cutD (ws.map sD) none (some d) ++ [y])) e1 = some (.lst (cutD (ws.map sD) none (some d) ++ [y])) := put_same
    generalize put (put (put h7 b (.lst (cutD (ws.map sD) none (some d)))) c (.lst [y])) e1 (.lst (cutD (ws.map sD) none (some d) ++ [y])) = h8 at S8 e8 ⊢
    have a8 := S8 _ _ a7
    try simp -dsimp -implicitDefEqProofs only [↓rds13, ↓rds14, ↓ers, ↓rds1, ↓rds2, ↓rds3, ↓rds4, ↓rds5, ↓rds6, ↓rds7, ↓rds8, ↓rds9, ↓rds10, ↓rds11, ↓rds12, List.set_cons_zero, List.set_cons_succ, ne_eq, not_false_eq_true, decide_eq_true_eq, Bool.or_true, Bool.or_false, Bool.true_or, Bool.false_or, Bool.and_true, Bool.true_and, Bool.and_false, Bool.false_and, Bool.not_true, Bool.not_false, reduceCtorEq, beq_self_eq_true, true_and, and_true, if_true, if_false, Bool.false_eq_true, a8]
    refine al_i fun f hf => ?_
    have nef := on e8 hf
    try simp -dsimp -implicitDefEqProofs only [↓rds13, ↓rds14, ↓ers, ↓rds1, ↓rds2, ↓rds3, ↓rds4, ↓rds5, ↓rds6, ↓rds7, ↓rds8, ↓rds9, ↓rds10, ↓rds11, ↓rds12, List.set_cons_zero, List.set_cons_succ, ne_eq, not_false_eq_true, decide_eq_true_eq, Bool.or_true, Bool.or_false, Bool.true_or, Bool.false_or, Bool.and_true, Bool.true_and, Bool.and_false, Bool.false_and, Bool.not_true, Bool.not_false, reduceCtorEq, beq_self_eq_true, true_and, and_true, if_true, if_false, Bool.false_eq_true, nef, e8]
    refine ⟨big _ (by rw [List.length_append, List.length_singleton]; omega), al_i fun g hg => ?_⟩
    try simp -dsimp -implicitDefEqProofs only [↓rds13, ↓rds14, ↓ers, ↓rds1, ↓rds2, ↓rds3, ↓rds4, ↓rds5, ↓rds6, ↓rds7, ↓rds8, ↓rds9, ↓rds10, ↓rds11, ↓rds12, List.set_cons_zero, List.set_cons_succ, ne_eq, not_false_eq_true, decide_eq_true_eq, Bool.or_true, Bool.or_false, Bool.true_or, Bool.false_or, Bool.and_true, Bool.true_and, Bool.and_false, Bool.false_and, Bool.not_true, Bool.not_false, reduceCtorEq, beq_self_eq_true, true_and, and_true, if_true, if_false, Bool.false_eq_true]
    exact finR (ret _ _ (pool_up P7' (S8.trans ((Sub.put hf).trans (Sub.put hg)))) (two _ _ _ _ [y] _ (by simp) fun z hz => by rw [List.mem_singleton.mp hz]; exact ky _ (S8.trans ((Sub.put hf).trans (Sub.put hg)))) (x7.sub (S8.trans ((Sub.put hf).trans (Sub.put hg)))))
  try simp -dsimp -implicitDefEqProofs only [↓rds13, ↓rds14, ↓ers, ↓rds1, ↓rds2, ↓rds3, ↓rds4, ↓rds5, ↓rds6, ↓rds7, ↓rds8, ↓rds9, ↓rds10, ↓rds11, ↓rds12, List.set_cons_zero, List.set_cons_succ, ne_eq, not_false_eq_true, decide_eq_true_eq, Bool.or_true, Bool.or_false, Bool.true_or, Bool.false_or, Bool.and_true, Bool.true_and, Bool.and_false, Bool.false_and, Bool.not_true, Bool.not_false, reduceCtorEq, beq_self_eq_true, true_and, and_true, if_true, if_false, Bool.false_eq_true]
  refine dIte_by (fun e => ?_) fun e => ?_
  · try simp -dsimp -implicitDefEqProofs only [↓rds13, ↓rds14, ↓ers, ↓rds1, ↓rds2, ↓rds3, ↓rds4, ↓rds5, ↓rds6, ↓rds7, ↓rds8, ↓rds9, ↓rds10, ↓rds11, ↓rds12, List.set_cons_zero, List.set_cons_succ, ne_eq, not_false_eq_true, decide_eq_true_eq, Bool.or_true, Bool.or_false, Bool.true_or, Bool.false_or, Bool.and_true, Bool.true_and, Bool.and_false, Bool.false_and, Bool.not_true, Bool.not_false, reduceCtorEq, beq_self_eq_true, true_and, and_true, if_true, if_false, Bool.false_eq_true, a4]
    refine al_i fun b hb => ?_
    have nb := on a4 hb
    try simp -dsimp -implicitDefEqProofs only [↓rds13, ↓rds14, ↓ers, ↓rds1, ↓rds2, ↓rds3, ↓rds4, ↓rds5, ↓rds6, ↓rds7, ↓rds8, ↓rds9, ↓rds10, ↓rds11, ↓rds12, List.set_cons_zero, List.set_cons_succ, ne_eq, not_false_eq_true, decide_eq_true_eq, Bool.or_true, Bool.or_false, Bool.true_or, Bool.false_or, Bool.and_true, Bool.true_and, Bool.and_false, Bool.false_and, Bool.not_true, Bool.not_false, reduceCtorEq, beq_self_eq_true, true_and, and_true, if_true, if_false, Bool.false_eq_true, nb, a4]
    refine al_i fun c hc => ?_
    have nc := nf hc
    have nc2 := nc.symm
    try simp -dsimp -implicitDefEqProofs only [↓rds13, ↓rds14, ↓ers, ↓rds1, ↓rds2, ↓rds3, ↓rds4, ↓rds5, ↓rds6, ↓rds7, ↓rds8, ↓rds9, ↓rds10, ↓rds11, ↓rds12, List.set_cons_zero, List.set_cons_succ, ne_eq, not_false_eq_true, decide_eq_true_eq, Bool.or_true, Bool.or_false, Bool.true_or, Bool.false_or, Bool.and_true, Bool.true_and, Bool.and_false, Bool.false_and, Bool.not_true, Bool.not_false, reduceCtorEq, beq_self_eq_true, true_and, and_true, if_true, if_false, Bool.false_eq_true, nc, nc2]
    have c1 := cl1 (some d) none
    have c2 := cl1 none (some d)
    refine ⟨big _ (by omega), al_i fun g hg => ?_⟩
    try simp -dsimp -implicitDefEqProofs only [↓rds13, ↓rds14, ↓ers, ↓rds1, ↓rds2, ↓rds3, ↓rds4, ↓rds5, ↓rds6, ↓rds7, ↓rds8, ↓rds9, ↓rds10, ↓rds11, ↓rds12, List.set_cons_zero, List.set_cons_succ, ne_eq, not_false_eq_true, decide_eq_true_eq, Bool.or_true, Bool.or_false, Bool.true_or, Bool.false_or, Bool.and_true, Bool.true_and, Bool.and_false, Bool.false_and, Bool.not_true, Bool.not_false, reduceCtorEq, beq_self_eq_true, true_and, and_true, if_true, if_false, Bool.false_eq_true]
    exact finR (ret _ _ (pool_up P4 ((Sub.put hb).trans ((Sub.put hc).trans (Sub.put hg)))) (two0 _ _ _ _ _) (x4.sub ((Sub.put hb).trans ((Sub.put hc).trans (Sub.put hg)))))
  try simp -dsimp -implicitDefEqProofs only [↓rds13, ↓rds14, ↓ers, ↓rds1, ↓rds2, ↓rds3, ↓rds4, ↓rds5, ↓rds6, ↓rds7, ↓rds8, ↓rds9, ↓rds10, ↓rds11, ↓rds12, List.set_cons_zero, List.set_cons_succ, ne_eq, not_false_eq_true, decide_eq_true_eq, Bool.or_true, Bool.or_false, Bool.true_or, Bool.false_or, Bool.and_true, Bool.true_and, Bool.and_false, Bool.false_and, Bool.not_true, Bool.not_false, reduceCtorEq, beq_self_eq_true, true_and, and_true, if_true, if_false, Bool.false_eq_true]
  refine dIte_by (fun e => ?_) fun e => ?_
  · try simp -dsimp -implicitDefEqProofs only [↓rds13, ↓rds14, ↓ers, ↓rds1, ↓rds2, ↓rds3, ↓rds4, ↓rds5, ↓rds6, ↓rds7, ↓rds8, ↓rds9, ↓rds10, ↓rds11, ↓rds12, List.set_cons_zero, List.set_cons_succ, ne_eq, not_false_eq_true, decide_eq_true_eq, Bool.or_true, Bool.or_false, Bool.true_or, Bool.false_or, Bool.and_true, Bool.true_and, Bool.and_false, Bool.false_and, Bool.not_true, Bool.not_false, reduceCtorEq, beq_self_eq_true, true_and, and_true, if_true, if_false, Bool.false_eq_true, a4]
    refine al_i fun b hb => ?_
    have nb := on a4 hb
    try simp -dsimp -implicitDefEqProofs only [↓rds13, ↓rds14, ↓ers, ↓rds1, ↓rds2, ↓rds3, ↓rds4, ↓rds5, ↓rds6, ↓rds7, ↓rds8, ↓rds9, ↓rds10, ↓rds11, ↓rds12, List.set_cons_zero, List.set_cons_succ, ne_eq, not_false_eq_true, decide_eq_true_eq, Bool.or_true, Bool.or_false, Bool.true_or, Bool.false_or, Bool.and_true, Bool.true_and, Bool.and_false, Bool.false_and, Bool.not_true, Bool.not_false, reduceCtorEq, beq_self_eq_true, true_and, and_true, if_true, if_false, Bool.false_eq_true, nb, a4]
    refine al_i fun c hc => ?_
    have nc := nf hc
    have nc2 := nc.symm
    try simp -dsimp -implicitDefEqProofs only [↓rds13, ↓rds14, ↓ers, ↓rds1, ↓rds2, ↓rds3, ↓rds4, ↓rds5, ↓rds6, ↓rds7, ↓rds8, ↓rds9, ↓rds10, ↓rds11, ↓rds12, List.set_cons_zero, List.set_cons_succ, ne_eq, not_false_eq_true, decide_eq_true_eq, Bool.or_true, Bool.or_false, Bool.true_or, Bool.false_or, Bool.and_true, Bool.true_and, Bool.and_false, Bool.false_and, Bool.not_true, Bool.not_false, reduceCtorEq, beq_self_eq_true, true_and, and_true, if_true, if_false, Bool.false_eq_true, nc, nc2]
    have c1 := cl1 none (some d)
    have c2 := cl1 (some (if d - 1 > 0 then d - 1 else 0)) none
    refine ⟨big _ (by omega), al_i fun g hg => ?_⟩
    try simp -dsimp -implicitDefEqProofs only [↓rds13, ↓rds14, ↓ers, ↓rds1, ↓rds2, ↓rds3, ↓rds4, ↓rds5, ↓rds6, ↓rds7, ↓rds8, ↓rds9, ↓rds10, ↓rds11, ↓rds12, List.set_cons_zero, List.set_cons_succ, ne_eq, not_false_eq_true, decide_eq_true_eq, Bool.or_true, Bool.or_false, Bool.true_or, Bool.false_or, Bool.and_true, Bool.true_and, Bool.and_false, Bool.false_and, Bool.not_true, Bool.not_false, reduceCtorEq, beq_self_eq_true, true_and, and_true, if_true, if_false, Bool.false_eq_true]
    exact finR (ret _ _ (pool_up P4 ((Sub.put hb).trans ((Sub.put hc).trans (Sub.put hg)))) (two0 _ _ _ _ _) (x4.sub ((Sub.put hb).trans ((Sub.put hc).trans (Sub.put hg)))))
  try simp -dsimp -implicitDefEqProofs only [↓rds13, ↓rds14, ↓ers, ↓rds1, ↓rds2, ↓rds3, ↓rds4, ↓rds5, ↓rds6, ↓rds7, ↓rds8, ↓rds9, ↓rds10, ↓rds11, ↓rds12, List.set_cons_zero, List.set_cons_succ, ne_eq, not_false_eq_true, decide_eq_true_eq, Bool.or_true, Bool.or_false, Bool.true_or, Bool.false_or, Bool.and_true, Bool.true_and, Bool.and_false, Bool.false_and, Bool.not_true, Bool.not_false, reduceCtorEq, beq_self_eq_true, true_and, and_true, if_true, if_false, Bool.false_eq_true]
  refine dIte_by (fun e => ?_) fun e => ?_
  · try simp -dsimp -implicitDefEqProofs only [↓rds13, ↓rds14, ↓ers, ↓rds1, ↓rds2, ↓rds3, ↓rds4, ↓rds5, ↓rds6, ↓rds7, ↓rds8, ↓rds9, ↓rds10, ↓rds11, ↓rds12, List.set_cons_zero, List.set_cons_succ, ne_eq, not_false_eq_true, decide_eq_true_eq, Bool.or_true, Bool.or_false, Bool.true_or, Bool.false_or, Bool.and_true, Bool.true_and, Bool.and_false, Bool.false_and, Bool.not_true, Bool.not_false, reduceCtorEq, beq_self_eq_true, true_and, and_true, if_true, if_false, Bool.false_eq_true, a4]
    rw [strsD_sD, joinX_s]
    refine ⟨?_, finR (ret _ _ P4 ⟨trivial, fun xs e => by cases e⟩ x4)⟩
    have : ∀ l : List Str, (∀ w ∈ l, w.length ≤ 2) → (l.map Str.length).sum ≤ 2 * l.length := fun l hl => by
      induction l with
      | nil => exact Nat.le_refl _
      | cons w r ih =>
        have := ih fun w hw => hl w (List.mem_cons_of_mem _ hw)
        have := hl w List.mem_cons_self
        rw [List.map_cons, List.sum_cons, List.length_cons]
        omega
    have := this ws fun w hw => ws_len hk (lw.mem hw)
    show _ + ws.length * 0 ≤ 16777216
    omega
  try simp -dsimp -implicitDefEqProofs only [↓rds13, ↓rds14, ↓ers, ↓rds1, ↓rds2, ↓rds3, ↓rds4, ↓rds5, ↓rds6, ↓rds7, ↓rds8, ↓rds9, ↓rds10, ↓rds11, ↓rds12, List.set_cons_zero, List.set_cons_succ, ne_eq, not_false_eq_true, decide_eq_true_eq, Bool.or_true, Bool.or_false, Bool.true_or, Bool.false_or, Bool.and_true, Bool.true_and, Bool.and_false, Bool.false_and, Bool.not_true, Bool.not_false, reduceCtorEq, beq_self_eq_true, true_and, and_true, if_true, if_false, Bool.false_eq_true]
  refine dIte_by (fun e => ?_) fun e => ?_
  · refine dIte_pos rfl ?_
    try simp -dsimp -implicitDefEqProofs only [↓rds13, ↓rds14, ↓ers, ↓rds1, ↓rds2, ↓rds3, ↓rds4, ↓rds5, ↓rds6, ↓rds7, ↓rds8, ↓rds9, ↓rds10, ↓rds11, ↓rds12, List.set_cons_zero, List.set_cons_succ, ne_eq, not_false_eq_true, decide_eq_true_eq, Bool.or_true, Bool.or_false, Bool.true_or, Bool.false_or, Bool.and_true, Bool.true_and, Bool.and_false, Bool.false_and, Bool.not_true, Bool.not_false, reduceCtorEq, beq_self_eq_true, true_and, and_true, if_true, if_false, Bool.false_eq_true, a4]
    refine al_i fun b hb => ?_
    have npb := (pool_ne P4 hb).1
    have S5 : Sub h4 (put h4 b (.lst (cutD (ws.map sD) none (some d)))) := Sub.put hb
    have e5 : put h4 b (.lst (cutD (ws.map sD) none (some d))) b = some (.lst (cutD (ws.map sD) none (some d))) := put_same
    generalize put h4 b (.lst (cutD (ws.map sD) none (some d))) = h5 at S5 e5
    have g5 := S5 _ _ g4
    have P5 := pool_up P4 S5
    try simp -dsimp -implicitDefEqProofs only [↓rds13, ↓rds14, ↓ers, ↓rds1, ↓rds2, ↓rds3, ↓rds4, ↓rds5, ↓rds6, ↓rds7, ↓rds8, ↓rds9, ↓rds10, ↓rds11, ↓rds12, List.set_cons_zero, List.set_cons_succ, ne_eq, not_false_eq_true, decide_eq_true_eq, Bool.or_true, Bool.or_false, Bool.true_or, Bool.false_or, Bool.and_true, Bool.true_and, Bool.and_false, Bool.false_and, Bool.not_true, Bool.not_false, reduceCtorEq, beq_self_eq_true, true_and, and_true, if_true, if_false, Bool.false_eq_true, g5, List.length_map]
    refine cl_i ⟨rfl, p, q, cells, ((wsL kind).length : Int), rfl, P5, by omega, log_small (by omega) (by omega), fun k2 s2 k20 k21 => ?_⟩
    obtain ⟨y, hy, ey⟩ := at_list k20 k21
    have P6 := pool_put P5 s2
    have x6 := (x4.sub S5).set (o := poolO q s2)
    have e6 : put h5 p (poolO q s2) b = some (.lst (cutD (ws.map sD) none (some d))) := by rw [put_ne npb]; exact e5
    have a6 : put h5 p (poolO q s2) a = some (.lst (ws.map sD)) := by rw [put_ne na.1]; exact S5 _ _ a4
    have g6 : put h5 p (poolO q s2) r = some (.lst ((wsL kind).map sD)) := by rw [put_ne nr.1]; exact g5
    generalize put h5 p (poolO q s2) = h6 at P6 x6 e6 a6 g6
    try simp -dsimp -implicitDefEqProofs only [↓rds13, ↓rds14, ↓ers, ↓rds1, ↓rds2, ↓rds3, ↓rds4, ↓rds5, ↓rds6, ↓rds7, ↓rds8, ↓rds9, ↓rds10, ↓rds11, ↓rds12, List.set_cons_zero, List.set_cons_succ, ne_eq, not_false_eq_true, decide_eq_true_eq, Bool.or_true, Bool.or_false, Bool.true_or, Bool.false_or, Bool.and_true, Bool.true_and, Bool.and_false, Bool.false_and, Bool.not_true, Bool.not_false, reduceCtorEq, beq_self_eq_true, true_and, and_true, if_true, if_false, Bool.false_eq_true, g6, ey]
    refine al_i fun c hc => ?_
    have nbc := on e6 hc
    try simp -dsimp -implicitDefEqProofs only [↓rds13, ↓rds14, ↓ers, ↓rds1, ↓rds2, ↓rds3, ↓rds4, ↓rds5, ↓rds6, ↓rds7, ↓rds8, ↓rds9, ↓rds10, ↓rds11, ↓rds12, List.set_cons_zero, List.set_cons_succ, ne_eq, not_false_eq_true, decide_eq_true_eq, Bool.or_true, Bool.or_false, Bool.true_or, Bool.false_or, Bool.and_true, Bool.true_and, Bool.and_false, Bool.false_and, Bool.not_true, Bool.not_false, reduceCtorEq, beq_self_eq_true, true_and, and_true, if_true, if_false, Bool.false_eq_true, nbc, e6]
    have c1 := cl1 none (some d)
    have c2 := cl1 (some d) none
    refine ⟨big _ (by rw [List.length_singleton]; omega), al_i fun e1 he1 => ?_⟩
    have S8 : Sub h6 _ := (Sub.put hc).trans (Sub.put (o := .lst (cutD (ws.map sD) none (some d) ++ [sD y])) he1)
    have e8 : put (put h6 c (.lst [sD y])) e1 (.lst (cutD (ws.map sD) none (some d) ++ [sD y])) e1 = some (.lst (cutD (ws.map sD) none (some d) ++ [sD y])) := put_same
    generalize put (put h6 c (.lst [sD y])) e1 (.lst (cutD (ws.map sD) none (some d) ++ [sD y])) = h8 at S8 e8 ⊢
    have a8 := S8 _ _ a6
    try simp -dsimp -implicitDefEqProofs only [↓rds13, ↓rds14, ↓ers, ↓rds1, ↓rds2, ↓rds3, ↓rds4, ↓rds5, ↓rds6, ↓rds7, ↓rds8, ↓rds9, ↓rds10, ↓rds11, ↓rds12, List.set_cons_zero, List.set_cons_succ, ne_eq, not_false_eq_true, decide_eq_true_eq, Bool.or_true, Bool.or_false, Bool.true_or, Bool.false_or, Bool.and_true, Bool.true_and, Bool.and_false, Bool.false_and, Bool.not_true, Bool.not_false, reduceCtorEq, beq_self_eq_true, true_and, and_true, if_true, if_false, Bool.false_eq_true, a8]
    refine al_i fun f hf => ?_
    have nef := on e8 hf
    try simp -dsimp -implicitDefEqProofs only [↓rds13, ↓rds14, ↓ers, ↓rds1, ↓rds2, ↓rds3, ↓rds4, ↓rds5, ↓rds6, ↓rds7, ↓rds8, ↓rds9, ↓rds10, ↓rds11, ↓rds12, List.set_cons_zero, List.set_cons_succ, ne_eq, not_false_eq_true, decide_eq_true_eq, Bool.or_true, Bool.or_false, Bool.true_or, Bool.false_or, Bool.and_true, Bool.true_and, Bool.and_false, Bool.false_and, Bool.not_true, Bool.not_false, reduceCtorEq, beq_self_eq_true, true_and, and_true, if_true, if_false, Bool.false_eq_true, nef, e8]
    refine ⟨big _ (by rw [List.length_append, List.length_singleton]; omega), al_i fun g hg => ?_⟩
    try simp -dsimp -implicitDefEqProofs only [↓rds13, ↓rds14, ↓ers, ↓rds1, ↓rds2, ↓rds3, ↓rds4, ↓rds5, ↓rds6, ↓rds7, ↓rds8, ↓rds9, ↓rds10, ↓rds11, ↓rds12, List.set_cons_zero, List.set_cons_succ, ne_eq, not_false_eq_true, decide_eq_true_eq, Bool.or_true, Bool.or_false, Bool.true_or, Bool.false_or, Bool.and_true, Bool.true_and, Bool.and_false, Bool.false_and, Bool.not_true, Bool.not_false, reduceCtorEq, beq_self_eq_true, true_and, and_true, if_true, if_false, Bool.false_eq_true]
    exact finR (ret _ _ (pool_up P6 (S8.trans ((Sub.put hf).trans (Sub.put hg)))) (two _ _ _ _ [sD y] _ (by simp) fun z hz => by rw [List.mem_singleton.mp hz]; exact kn_sD (by have := ws_len hk hy; omega)) (x6.sub (S8.trans ((Sub.put hf).trans (Sub.put hg)))))
  try simp -dsimp -implicitDefEqProofs only [↓rds13, ↓rds14, ↓ers, ↓rds1, ↓rds2, ↓rds3, ↓rds4, ↓rds5, ↓rds6, ↓rds7, ↓rds8, ↓rds9, ↓rds10, ↓rds11, ↓rds12, List.set_cons_zero, List.set_cons_succ, ne_eq, not_false_eq_true, decide_eq_true_eq, Bool.or_true, Bool.or_false, Bool.true_or, Bool.false_or, Bool.and_true, Bool.true_and, Bool.and_false, Bool.false_and, Bool.not_true, Bool.not_false, reduceCtorEq, beq_self_eq_true, true_and, and_true, if_true, if_false, Bool.false_eq_true]
  refine dIte_by (fun e => ?_) fun e => ?_
  · try simp -dsimp -implicitDefEqProofs only [↓rds13, ↓rds14, ↓ers, ↓rds1, ↓rds2, ↓rds3, ↓rds4, ↓rds5, ↓rds6, ↓rds7, ↓rds8, ↓rds9, ↓rds10, ↓rds11, ↓rds12, List.set_cons_zero, List.set_cons_succ, ne_eq, not_false_eq_true, decide_eq_true_eq, Bool.or_true, Bool.or_false, Bool.true_or, Bool.false_or, Bool.and_true, Bool.true_and, Bool.and_false, Bool.false_and, Bool.not_true, Bool.not_false, reduceCtorEq, beq_self_eq_true, true_and, and_true, if_true, if_false, Bool.false_eq_true, a4]
    refine al_i fun b hb => ?_
    have npb := (pool_ne P4 hb).1
    have S5 : Sub h4 (put h4 b (.lst (cutD (ws.map sD) none (some d)))) := Sub.put hb
    have e5 : put h4 b (.lst (cutD (ws.map sD) none (some d))) b = some (.lst (cutD (ws.map sD) none (some d))) := put_same
    generalize put h4 b (.lst (cutD (ws.map sD) none (some d))) = h5 at S5 e5
    have g5 := S5 _ _ g4
    have P5 := pool_up P4 S5
    try simp -dsimp -implicitDefEqProofs only [↓rds13, ↓rds14, ↓ers, ↓rds1, ↓rds2, ↓rds3, ↓rds4, ↓rds5, ↓rds6, ↓rds7, ↓rds8, ↓rds9, ↓rds10, ↓rds11, ↓rds12, List.set_cons_zero, List.set_cons_succ, ne_eq, not_false_eq_true, decide_eq_true_eq, Bool.or_true, Bool.or_false, Bool.true_or, Bool.false_or, Bool.and_true, Bool.true_and, Bool.and_false, Bool.false_and, Bool.not_true, Bool.not_false, reduceCtorEq, beq_self_eq_true, true_and, and_true, if_true, if_false, Bool.false_eq_true, g5, List.length_map]
    refine cl_i ⟨rfl, p, q, cells, ((wsL kind).length : Int), rfl, P5, by omega, log_small (by omega) (by omega), fun k2 s2 k20 k21 => ?_⟩
    obtain ⟨y, hy, ey⟩ := at_list k20 k21
    have P6 := pool_put P5 s2
    have x6 := (x4.sub S5).set (o := poolO q s2)
    have e6 : put h5 p (poolO q s2) b = some (.lst (cutD (ws.map sD) none (some d))) := by rw [put_ne npb]; exact e5
    have a6 : put h5 p (poolO q s2) a = some (.lst (ws.map sD)) := by rw [put_ne na.1]; exact S5 _ _ a4
    have g6 : put h5 p (poolO q s2) r = some (.lst ((wsL kind).map sD)) := by rw [put_ne nr.1]; exact g5
    generalize put h5 p (poolO q s2) = h6 at P6 x6 e6 a6 g6
    try simp -dsimp -implicitDefEqProofs only [↓rds13, ↓rds14, ↓ers, ↓rds1, ↓rds2, ↓rds3, ↓rds4, ↓rds5, ↓rds6, ↓rds7, ↓rds8, ↓rds9, ↓rds10, ↓rds11, ↓rds12, List.set_cons_zero, List.set_cons_succ, ne_eq, not_false_eq_true, decide_eq_true_eq, Bool.or_true, Bool.or_false, Bool.true_or, Bool.false_or, Bool.and_true, Bool.true_and, Bool.and_false, Bool.false_and, Bool.not_true, Bool.not_false, reduceCtorEq, beq_self_eq_true, true_and, and_true, if_true, if_false, Bool.false_eq_true, g6, ey]
    refine al_i fun c hc => ?_
    have nbc := on e6 hc
    try simp -dsimp -implicitDefEqProofs only [↓rds13, ↓rds14, ↓ers, ↓rds1, ↓rds2, ↓rds3, ↓rds4, ↓rds5, ↓rds6, ↓rds7, ↓rds8, ↓rds9, ↓rds10, ↓rds11, ↓rds12, List.set_cons_zero, List.set_cons_succ, ne_eq, not_false_eq_true, decide_eq_true_eq, Bool.or_true, Bool.or_false, Bool.true_or, Bool.false_or, Bool.and_true, Bool.true_and, Bool.and_false, Bool.false_and, Bool.not_true, Bool.not_false, reduceCtorEq, beq_self_eq_true, true_and, and_true, if_true, if_false, Bool.false_eq_true, nbc, e6]
    have c1 := cl1 none (some d)
    have c2 := cl1 (some d) none
    refine ⟨big _ (by rw [List.length_singleton]; omega), al_i fun e1 he1 => ?_⟩
    have S8 : Sub h6 _ := (Sub.put hc).trans (Sub.put (o := .lst (cutD (ws.map sD) none (some d) ++ [sD y])) he1)
    have e8 : put (put h6 c (.lst [sD y])) e1 (.lst (cutD (ws.map sD) none (some d) ++ [sD y])) e1 = some (.lst (cutD (ws.map sD) none (some d) ++ [sD y])) := put_same
    generalize put (put h6 c (.lst [sD y])) e1 (.lst (cutD (ws.map sD) none (some d) ++ [sD y])) = h8 at S8 e8 ⊢
    have a8 := S8 _ _ a6
    try simp -dsimp -implicitDefEqProofs only [↓rds13, ↓rds14, ↓ers, ↓rds1, ↓rds2, ↓rds3, ↓rds4, ↓rds5, ↓rds6, ↓rds7, ↓rds8, ↓rds9, ↓rds10, ↓rds11, ↓rds12, List.set_cons_zero, List.set_cons_succ, ne_eq, not_false_eq_true, decide_eq_true_eq, Bool.or_true, Bool.or_false, Bool.true_or, Bool.false_or, Bool.and_true, Bool.true_and, Bool.and_false, Bool.false_and, Bool.not_true, Bool.not_false, reduceCtorEq, beq_self_eq_true, true_and, and_true, if_true, if_false, Bool.false_eq_true, a8]
    refine al_i fun f hf => ?_
    have nef := on e8 hf
    try simp -dsimp -implicitDefEqProofs only [↓rds13, ↓rds14, ↓ers, ↓rds1, ↓rds2, ↓rds3, ↓rds4, ↓rds5, ↓rds6, ↓rds7, ↓rds8, ↓rds9, ↓rds10, ↓rds11, ↓rds12, List.set_cons_zero, List.set_cons_succ, ne_eq, not_false_eq_true, decide_eq_true_eq, Bool.or_true, Bool.or_false, Bool.true_or, Bool.false_or, Bool.and_true, Bool.true_and, Bool.and_false, Bool.false_and, Bool.not_true, Bool.not_false, reduceCtorEq, beq_self_eq_true, true_and, and_true, if_true, if_false, Bool.false_eq_true, nef, e8]
    refine ⟨big _ (by rw [List.length_append, List.length_singleton]; omega), al_i fun g hg => ?_⟩
    try simp -dsimp -implicitDefEqProofs only [↓rds13, ↓rds14, ↓ers, ↓rds1, ↓rds2, ↓rds3, ↓rds4, ↓rds5, ↓rds6, ↓rds7, ↓rds8, ↓rds9, ↓rds10, ↓rds11, ↓rds12, List.set_cons_zero, List.set_cons_succ, ne_eq, not_false_eq_true, decide_eq_true_eq, Bool.or_true, Bool.or_false, Bool.true_or, Bool.false_or, Bool.and_true, Bool.true_and, Bool.and_false, Bool.false_and, Bool.not_true, Bool.not_false, reduceCtorEq, beq_self_eq_true, true_and, and_true, if_true, if_false, Bool.false_eq_true]
    exact finR (ret _ _ (pool_up P6 (S8.trans ((Sub.put hf).trans (Sub.put hg)))) (two _ _ _ _ [sD y] _ (by simp) fun z hz => by rw [List.mem_singleton.mp hz]; exact kn_sD (by have := ws_len hk hy; omega)) (x6.sub (S8.trans ((Sub.put hf).trans (Sub.put hg)))))
  try simp -dsimp -implicitDefEqProofs only [↓rds13, ↓rds14, ↓ers, ↓rds1, ↓rds2, ↓rds3, ↓rds4, ↓rds5, ↓rds6, ↓rds7, ↓rds8, ↓rds9, ↓rds10, ↓rds11, ↓rds12, List.set_cons_zero, List.set_cons_succ, ne_eq, not_false_eq_true, decide_eq_true_eq, Bool.or_true, Bool.or_false, Bool.true_or, Bool.false_or, Bool.and_true, Bool.true_and, Bool.and_false, Bool.false_and, Bool.not_true, Bool.not_false, reduceCtorEq, beq_self_eq_true, true_and, and_true, if_true, if_false, Bool.false_eq_true]
  refine dIte_by (fun e => ?_) fun e => ?_
  · try simp -dsimp -implicitDefEqProofs only [↓rds13, ↓rds14, ↓ers, ↓rds1, ↓rds2, ↓rds3, ↓rds4, ↓rds5, ↓rds6, ↓rds7, ↓rds8, ↓rds9, ↓rds10, ↓rds11, ↓rds12, List.set_cons_zero, List.set_cons_succ, ne_eq, not_false_eq_true, decide_eq_true_eq, Bool.or_true, Bool.or_false, Bool.true_or, Bool.false_or, Bool.and_true, Bool.true_and, Bool.and_false, Bool.false_and, Bool.not_true, Bool.not_false, reduceCtorEq, beq_self_eq_true, true_and, and_true, if_true, if_false, Bool.false_eq_true]
    refine al_i fun b hb => ?_
    try simp -dsimp -implicitDefEqProofs only [↓rds13, ↓rds14, ↓ers, ↓rds1, ↓rds2, ↓rds3, ↓rds4, ↓rds5, ↓rds6, ↓rds7, ↓rds8, ↓rds9, ↓rds10, ↓rds11, ↓rds12, List.set_cons_zero, List.set_cons_succ, ne_eq, not_false_eq_true, decide_eq_true_eq, Bool.or_true, Bool.or_false, Bool.true_or, Bool.false_or, Bool.and_true, Bool.true_and, Bool.and_false, Bool.false_and, Bool.not_true, Bool.not_false, reduceCtorEq, beq_self_eq_true, true_and, and_true, if_true, if_false, Bool.false_eq_true]
    refine al_i fun c hc => ?_
    have npb := (pool_ne P4 hb).1
    have S5 : Sub h4 (put h4 b (.lst [])) := Sub.put hb
    have e5 : put h4 b (.lst []) b = some (.lst []) := put_same
    generalize put h4 b (.lst []) = h5 at S5 e5 hc
    have npc := (pool_ne (pool_up P4 S5) hc).1
    have S6 : Sub h5 (put h5 c (.lst [D.v .non, D.v (.int 0), D.v (.str "a"), D.v (.ref b), D.t [D.v (.str "be"), D.v (.str "bi")], D.t [D.t [D.v (.str "a")], D.t []]])) := Sub.put hc
    have c6 : put h5 c (.lst [D.v .non, D.v (.int 0), D.v (.str "a"), D.v (.ref b), D.t [D.v (.str "be"), D.v (.str "bi")], D.t [D.t [D.v (.str "a")], D.t []]]) c = some (.lst [D.v .non, D.v (.int 0), D.v (.str "a"), D.v (.ref b), D.t [D.v (.str "be"), D.v (.str "bi")], D.t [D.t [D.v (.str "a")], D.t []]]) := put_same
    generalize put h5 c (.lst [D.v .non, D.v (.int 0), D.v (.str "a"), D.v (.ref b), D.t [D.v (.str "be"), D.v (.str "bi")], D.t [D.t [D.v (.str "a")], D.t []]]) = h6 at S6 c6 ⊢
    have P6 := pool_up P4 (S5.trans S6)
    try simp -dsimp -implicitDefEqProofs only [↓rds13, ↓rds14, ↓ers, ↓rds1, ↓rds2, ↓rds3, ↓rds4, ↓rds5, ↓rds6, ↓rds7, ↓rds8, ↓rds9, ↓rds10, ↓rds11, ↓rds12, List.set_cons_zero, List.set_cons_succ, ne_eq, not_false_eq_true, decide_eq_true_eq, Bool.or_true, Bool.or_false, Bool.true_or, Bool.false_or, Bool.and_true, Bool.true_and, Bool.and_false, Bool.false_and, Bool.not_true, Bool.not_false, reduceCtorEq, beq_self_eq_true, true_and, and_true, if_true, if_false, Bool.false_eq_true]
    refine cl_i ⟨rfl, p, q, cells, 6, rfl, P6, by decide, by decide, fun n s n0 n1 => ?_⟩
    have P7 := pool_put P6 s
    have x7 := (x4.sub (S5.trans S6)).set (o := poolO q s)
    have c7 : put h6 p (poolO q s) c = _ := (put_ne npc).trans c6
    have b7 : put h6 p (poolO q s) b = some (.lst []) := (put_ne npb).trans (S6 _ _ e5)
    generalize put h6 p (poolO q s) = h7 at P7 x7 c7 b7
    obtain ⟨y, hy, ey⟩ := at_mem2 (l := [D.v .non, D.v (.int 0), D.v (.str "a"), D.v (.ref b), D.t [D.v (.str "be"), D.v (.str "bi")], D.t [D.t [D.v (.str "a")], D.t []]]) (n := 6) rfl n0 n1
    try simp -dsimp -implicitDefEqProofs only [↓rds13, ↓rds14, ↓ers, ↓rds1, ↓rds2, ↓rds3, ↓rds4, ↓rds5, ↓rds6, ↓rds7, ↓rds8, ↓rds9, ↓rds10, ↓rds11, ↓rds12, List.set_cons_zero, List.set_cons_succ, ne_eq, not_false_eq_true, decide_eq_true_eq, Bool.or_true, Bool.or_false, Bool.true_or, Bool.false_or, Bool.and_true, Bool.true_and, Bool.and_false, Bool.false_and, Bool.not_true, Bool.not_false, reduceCtorEq, beq_self_eq_true, true_and, and_true, if_true, if_false, Bool.false_eq_true, c7, ey]
    refine finR (ret _ _ P7 ?_ x7)
    simp only [List.mem_cons, List.not_mem_nil, or_false] at hy
    rcases hy with rfl | rfl | rfl | rfl | rfl | rfl
    · exact ⟨trivial, fun xs e => by cases e⟩
    · exact ⟨trivial, fun xs e => by cases e⟩
    · exact ⟨trivial, fun xs e => by cases e⟩
    · exact ⟨⟨_, b7⟩, fun xs e => by cases e⟩
    · refine knV_t (by show 2 ≤ 1000; decide) fun x hx => ?_
      simp only [List.mem_cons, List.not_mem_nil, or_false] at hx
      rcases hx with rfl | rfl
      · exact kn_sD (by decide)
      · exact kn_sD (by decide)
    · refine knV_t (by show 2 ≤ 1000; decide) fun x hx => ?_
      simp only [List.mem_cons, List.not_mem_nil, or_false] at hx
      rcases hx with rfl | rfl
      · exact ⟨trivial, fun z e => by cases e⟩
      · exact ⟨trivial, fun z e => by cases e⟩
  try simp -dsimp -implicitDefEqProofs only [↓rds13, ↓rds14, ↓ers, ↓rds1, ↓rds2, ↓rds3, ↓rds4, ↓rds5, ↓rds6, ↓rds7, ↓rds8, ↓rds9, ↓rds10, ↓rds11, ↓rds12, List.set_cons_zero, List.set_cons_succ, ne_eq, not_false_eq_true, decide_eq_true_eq, Bool.or_true, Bool.or_false, Bool.true_or, Bool.false_or, Bool.and_true, Bool.true_and, Bool.and_false, Bool.false_and, Bool.not_true, Bool.not_false, reduceCtorEq, beq_self_eq_true, true_and, and_true, if_true, if_false, Bool.false_eq_true, a4]
  refine al_i fun b hb => ?_
  have nb := on a4 hb
  try simp -dsimp -implicitDefEqProofs only [↓rds13, ↓rds14, ↓ers, ↓rds1, ↓rds2, ↓rds3, ↓rds4, ↓rds5, ↓rds6, ↓rds7, ↓rds8, ↓rds9, ↓rds10, ↓rds11, ↓rds12, List.set_cons_zero, List.set_cons_succ, ne_eq, not_false_eq_true, decide_eq_true_eq, Bool.or_true, Bool.or_false, Bool.true_or, Bool.false_or, Bool.and_true, Bool.true_and, Bool.and_false, Bool.false_and, Bool.not_true, Bool.not_false, reduceCtorEq, beq_self_eq_true, true_and, and_true, if_true, if_false, Bool.false_eq_true, nb, a4]
  refine al_i fun c hc => ?_
  have nc := nf hc
  have nc2 := nc.symm
  try simp -dsimp -implicitDefEqProofs only [↓rds13, ↓rds14, ↓ers, ↓rds1, ↓rds2, ↓rds3, ↓rds4, ↓rds5, ↓rds6, ↓rds7, ↓rds8, ↓rds9, ↓rds10, ↓rds11, ↓rds12, List.set_cons_zero, List.set_cons_succ, ne_eq, not_false_eq_true, decide_eq_true_eq, Bool.or_true, Bool.or_false, Bool.true_or, Bool.false_or, Bool.and_true, Bool.true_and, Bool.and_false, Bool.false_and, Bool.not_true, Bool.not_false, reduceCtorEq, beq_self_eq_true, true_and, and_true, if_true, if_false, Bool.false_eq_true, nc, nc2]
  have c1 := cl1 none (some d)
  have c2 := cl1 (some (d + 1)) none
  refine ⟨big _ (by omega), al_i fun g hg => ?_⟩
  try simp -dsimp -implicitDefEqProofs only [↓rds13, ↓rds14, ↓ers, ↓rds1, ↓rds2, ↓rds3, ↓rds4, ↓rds5, ↓rds6, ↓rds7, ↓rds8, ↓rds9, ↓rds10, ↓rds11, ↓rds12, List.set_cons_zero, List.set_cons_succ, ne_eq, not_false_eq_true, decide_eq_true_eq, Bool.or_true, Bool.or_false, Bool.true_or, Bool.false_or, Bool.and_true, Bool.true_and, Bool.and_false, Bool.false_and, Bool.not_true, Bool.not_false, reduceCtorEq, beq_self_eq_true, true_and, and_true, if_true, if_false, Bool.false_eq_true]
  exact finR (ret _ _ (pool_up P4 ((Sub.put hb).trans ((Sub.put hc).trans (Sub.put hg)))) (two0 _ _ _ _ _) (x4.sub ((Sub.put hb).trans ((Sub.put hc).trans (Sub.put hg)))))
def rd_law (E : ER) : SD :=
  dSeq (dAsg (dCall sp_law_pool E (dCons (dVar 0) (dNil))) (nG 1))
  (dSeq (dAsg (d2 pIt (dLst (dCons (dC (.v (.str "line"))) (dCons (dC (.v (.str "ring"))) (dCons (dC (.v (.str "box"))) (dNil))))) (dCall sp_law_draw E (dCons (dVar 1) (dCons (dC (.v (.int 3))) (dNil))))) (nG 2))
  (dSeq (dIfS (dNot (dTest (dCall sp_law_words_hold E (dCons (dVar 1) (dCons (dVar 2) (dNil)))))) (dRet (dC (.v (.bl false)))) (dNext))
  (dSeq (dAsg (dCall sp_law_drawn_lot E (dCons (dVar 1) (dCons (dVar 2) (dCons (dC (.v (.int 9))) (dNil))))) (nG 3))
  (dSeq (dAsg (dCall sp_law_drawn_lot E (dCons (dVar 1) (dCons (dVar 2) (dCons (dC (.v (.int 9))) (dNil))))) (nG 4))
  (dSeq (dIfS (dNot (dTest (dCall (sp_law_same 3) E (dCons (dCall sp_joined_lots E (dCons (dVar 2) (dCons (dVar 3) (dCons (dVar 4) (dNil))))) (dCons (dCall sp_law_lot E (dCons (dVar 2) (dCons (d2 pAdd (dCB cList (dCons (dVar 3) (dNil))) (dCB cList (dCons (dVar 4) (dNil)))) (dNil)))) (dNil)))))) (dRet (dC (.v (.bl false)))) (dNext))
  (dSeq (dAsg (dLc (iAnyD (dVar 3)) (nG 9) (dTest (d2 pMem (dVar 9) (dVar 4))) (dVar 9) [9]) (nG 5))
  (dSeq (dIfS (dNot (dTest (dCall (sp_law_same 3) E (dCons (dCall sp_common E (dCons (dVar 2) (dCons (dVar 3) (dCons (dVar 4) (dNil))))) (dCons (dCall sp_law_lot E (dCons (dVar 2) (dCons (dVar 5) (dNil)))) (dNil)))))) (dRet (dC (.v (.bl false)))) (dNext))
  (dSeq (dAsg (dLc (iAnyD (dCall sp_law_ways E (dCons (dVar 2) (dNil)))) (nG 9) (dTest (d2 pNotMem (dVar 9) (dVar 3))) (dVar 9) [9]) (nG 6))
  (dSeq (dIfS (dNot (dTest (dCall (sp_law_same 3) E (dCons (dCall sp_other_ways E (dCons (dVar 2) (dCons (dVar 3) (dNil)))) (dCons (dCB cTuple (dCons (dVar 6) (dNil))) (dNil)))))) (dRet (dC (.v (.bl false)))) (dNext))
  (dSeq (dIfS (dNot (dTest (dCall (sp_law_same 3) E (dCons (dCall sp_back_lot E (dCons (dVar 2) (dCons (dVar 3) (dNil)))) (dCons (dCall sp_law_lot E (dCons (dVar 2) (dCons (dLc (iAnyD (dVar 3)) (nG 9) (dYes) (dCall sp_law_back E0d (dCons (dVar 2) (dCons (dVar 9) (dNil)))) [9]) (dNil)))) (dNil)))))) (dRet (dC (.v (.bl false)))) (dNext))
  (dSeq (dIfS (dNot (dTest (dCall (sp_law_same 3) E (dCons (dCall sp_mirrored_lot E (dCons (dVar 2) (dCons (dVar 4) (dNil)))) (dCons (dCall sp_law_lot E (dCons (dVar 2) (dCons (dLc (iAnyD (dVar 4)) (nG 9) (dYes) (dCall sp_law_mirrored E0d (dCons (dVar 2) (dCons (dVar 9) (dNil)))) [9]) (dNil)))) (dNil)))))) (dRet (dC (.v (.bl false)))) (dNext))
  (dSeq (dFor (iRng1D (dCons (dC (.v (.int 6))) (dNil))) (nG 7) (dSeq (dAsg (dCall sp_law_spoilt E (dCons (dVar 1) (dCons (dVar 2) (dCons (d2 pIt (dLst (dCons (dVar 3) (dCons (dVar 4) (dCons (dCall sp_joined_lots E (dCons (dVar 2) (dCons (dVar 3) (dCons (dVar 4) (dNil))))) (dNil))))) (dCall sp_law_draw E (dCons (dVar 1) (dCons (dC (.v (.int 3))) (dNil))))) (dNil))))) (nG 8))
  (dIfS (dNot (dTest (dCall (sp_law_same 3) E (dCons (dCall sp_is_lot E (dCons (dVar 2) (dCons (dVar 8) (dNil)))) (dCons (dCall sp_law_is_lot E (dCons (dVar 2) (dCons (dVar 8) (dNil)))) (dNil)))))) (dRet (dC (.v (.bl false)))) (dNext))))
  (dRet (dC (.v (.bl true))))))))))))))))
abbrev N_law : List Str := ["script", "pool", "kind", "first", "second", "inner", "rest", "turn", "value", "way"]
theorem lot_sub {kind : Str} {A : List Str} (l : Lot kind A) (p : Str → Bool) : Lot kind (A.filter p) := by
  have e : A.filter p = (wsL kind).filter fun w => p w && decide (w ∈ A) := by
    have h : ordL kind A = A := l
    conv => lhs; rw [← h]
    unfold ordL
    rw [List.filter_filter]
  rw [e]
  exact lot_filter _
theorem sm3 {l : List Str} (hl : l.length ≤ 1000) : smD 3 (.t (l.map sD)) := sm_strs (n := 1) hl
theorem ok_law : ∀ ds h Q E, lawSp ds h Q E → rd_law (fun x _ h' => E x h') (fin Q) (startD N_law ds) h := by
  rintro ds h Q E ⟨ns, rfl, rfl, hl, hb, ret⟩
  show rd_law _ _ [some (.k (intsD ns)), none, none, none, none, none, none, none, none, none] emp
  unfold rd_law
  try simp -dsimp -implicitDefEqProofs only [↓rds13, ↓rds14, ↓ers, ↓rds1, ↓rds2, ↓rds3, ↓rds4, ↓rds5, ↓rds6, ↓rds7, ↓rds8, ↓rds9, ↓rds10, ↓rds11, ↓rds12, List.set_cons_zero, List.set_cons_succ, ne_eq, not_false_eq_true, decide_eq_true_eq, Bool.or_true, Bool.or_false, Bool.true_or, Bool.false_or, Bool.and_true, Bool.true_and, Bool.and_false, Bool.false_and, Bool.not_true, Bool.not_false, reduceCtorEq, beq_self_eq_true, true_and, and_true, if_true, if_false, Bool.false_eq_true]
  refine cl_i ⟨rfl, ns, rfl, hl, fun p q hq hp hn => ?_⟩
  have P0 : PoolAt (put (put emp q (O.lst (intsD ns))) p (poolO q (0, 0, 0))) p q ns := ⟨⟨(0, 0, 0), put_same⟩, by rw [put_ne hn, put_same], hn, hl⟩
  generalize put (put emp q (O.lst (intsD ns))) p (poolO q (0, 0, 0)) = h0 at P0
  try simp -dsimp -implicitDefEqProofs only [↓rds13, ↓rds14, ↓ers, ↓rds1, ↓rds2, ↓rds3, ↓rds4, ↓rds5, ↓rds6, ↓rds7, ↓rds8, ↓rds9, ↓rds10, ↓rds11, ↓rds12, List.set_cons_zero, List.set_cons_succ, ne_eq, not_false_eq_true, decide_eq_true_eq, Bool.or_true, Bool.or_false, Bool.true_or, Bool.false_or, Bool.and_true, Bool.true_and, Bool.and_false, Bool.false_and, Bool.not_true, Bool.not_false, reduceCtorEq, beq_self_eq_true, true_and, and_true, if_true, if_false, Bool.false_eq_true]
  refine al_i fun l hl1 => ?_
  have P1 := pool_keep (o := .lst [D.v (.str "line"), D.v (.str "ring"), D.v (.str "box")]) P0 hl1
  have lp := (pool_ne P0 hl1).1
  have hL : put h0 l (.lst [D.v (.str "line"), D.v (.str "ring"), D.v (.str "box")]) l = some (.lst [D.v (.str "line"), D.v (.str "ring"), D.v (.str "box")]) := put_same
  generalize put h0 l (.lst [D.v (.str "line"), D.v (.str "ring"), D.v (.str "box")]) = h1 at P1 hL
  try simp -dsimp -implicitDefEqProofs only [↓rds13, ↓rds14, ↓ers, ↓rds1, ↓rds2, ↓rds3, ↓rds4, ↓rds5, ↓rds6, ↓rds7, ↓rds8, ↓rds9, ↓rds10, ↓rds11, ↓rds12, List.set_cons_zero, List.set_cons_succ, ne_eq, not_false_eq_true, decide_eq_true_eq, Bool.or_true, Bool.or_false, Bool.true_or, Bool.false_or, Bool.and_true, Bool.true_and, Bool.and_false, Bool.false_and, Bool.not_true, Bool.not_false, reduceCtorEq, beq_self_eq_true, true_and, and_true, if_true, if_false, Bool.false_eq_true]
  refine cl_i ⟨rfl, p, q, ns, 3, rfl, P1, by decide, by decide, fun k s k0 k1 => ?_⟩
  have hL2 : put h1 p (poolO q s) l = some (.lst [D.v (.str "line"), D.v (.str "ring"), D.v (.str "box")]) := by rw [put_ne lp]; exact hL
  have P2 := pool_put P1 s
  generalize put h1 p (poolO q s) = h2 at hL2 P2
  obtain ⟨kind, hk, ek⟩ := at_kind k0 k1
  try simp -dsimp -implicitDefEqProofs only [↓rds13, ↓rds14, ↓ers, ↓rds1, ↓rds2, ↓rds3, ↓rds4, ↓rds5, ↓rds6, ↓rds7, ↓rds8, ↓rds9, ↓rds10, ↓rds11, ↓rds12, List.set_cons_zero, List.set_cons_succ, ne_eq, not_false_eq_true, decide_eq_true_eq, Bool.or_true, Bool.or_false, Bool.true_or, Bool.false_or, Bool.and_true, Bool.true_and, Bool.and_false, Bool.false_and, Bool.not_true, Bool.not_false, reduceCtorEq, beq_self_eq_true, true_and, and_true, if_true, if_false, Bool.false_eq_true, hL2, ek]
  refine cl_i ⟨rfl, p, q, ns, kind, rfl, P2, hk, fun s => ?_⟩
  have P3 := pool_put P2 s
  generalize put h2 p (poolO q s) = h3 at P3
  try simp -dsimp -implicitDefEqProofs only [↓rds13, ↓rds14, ↓ers, ↓rds1, ↓rds2, ↓rds3, ↓rds4, ↓rds5, ↓rds6, ↓rds7, ↓rds8, ↓rds9, ↓rds10, ↓rds11, ↓rds12, List.set_cons_zero, List.set_cons_succ, ne_eq, not_false_eq_true, decide_eq_true_eq, Bool.or_true, Bool.or_false, Bool.true_or, Bool.false_or, Bool.and_true, Bool.true_and, Bool.and_false, Bool.false_and, Bool.not_true, Bool.not_false, reduceCtorEq, beq_self_eq_true, true_and, and_true, if_true, if_false, Bool.false_eq_true]
  refine cl_i ⟨rfl, p, q, ns, kind, 9, rfl, P3, hk, by decide, by decide, fun A s lA => ?_⟩
  have P4 := pool_put P3 s
  generalize put h3 p (poolO q s) = h4 at P4
  try simp -dsimp -implicitDefEqProofs only [↓rds13, ↓rds14, ↓ers, ↓rds1, ↓rds2, ↓rds3, ↓rds4, ↓rds5, ↓rds6, ↓rds7, ↓rds8, ↓rds9, ↓rds10, ↓rds11, ↓rds12, List.set_cons_zero, List.set_cons_succ, ne_eq, not_false_eq_true, decide_eq_true_eq, Bool.or_true, Bool.or_false, Bool.true_or, Bool.false_or, Bool.and_true, Bool.true_and, Bool.and_false, Bool.false_and, Bool.not_true, Bool.not_false, reduceCtorEq, beq_self_eq_true, true_and, and_true, if_true, if_false, Bool.false_eq_true]
  refine cl_i ⟨rfl, p, q, ns, kind, 9, rfl, P4, hk, by decide, by decide, fun B s lB => ?_⟩
  have P5 := pool_put P4 s
  generalize put h4 p (poolO q s) = h5 at P5
  clear P0 P1 P2 P3 P4 hL hL2 hl1 lp
  have la := lA.len hk
  have lb := lB.len hk
  have lab : (A ++ B).length ≤ 1000 := by rw [List.length_append]; omega
  have ab : ∀ w ∈ A ++ B, w ∈ wsL kind := fun w hw => by
    rcases List.mem_append.mp hw with k | k
    · exact lA.mem k
    · exact lB.mem k
  have o1000 : ∀ ws : List Str, (ordL kind ws).length ≤ 1000 := fun ws => Nat.le_trans (ordL_len hk ws) (by decide)
  try simp -dsimp -implicitDefEqProofs only [↓rds13, ↓rds14, ↓ers, ↓rds1, ↓rds2, ↓rds3, ↓rds4, ↓rds5, ↓rds6, ↓rds7, ↓rds8, ↓rds9, ↓rds10, ↓rds11, ↓rds12, List.set_cons_zero, List.set_cons_succ, ne_eq, not_false_eq_true, decide_eq_true_eq, Bool.or_true, Bool.or_false, Bool.true_or, Bool.false_or, Bool.and_true, Bool.true_and, Bool.and_false, Bool.false_and, Bool.not_true, Bool.not_false, reduceCtorEq, beq_self_eq_true, true_and, and_true, if_true, if_false, Bool.false_eq_true]
  refine cl_i ⟨rfl, kind, A, B, rfl, hk, ab, lab, ?_⟩
  try simp -dsimp -implicitDefEqProofs only [↓rds13, ↓rds14, ↓ers, ↓rds1, ↓rds2, ↓rds3, ↓rds4, ↓rds5, ↓rds6, ↓rds7, ↓rds8, ↓rds9, ↓rds10, ↓rds11, ↓rds12, List.set_cons_zero, List.set_cons_succ, ne_eq, not_false_eq_true, decide_eq_true_eq, Bool.or_true, Bool.or_false, Bool.true_or, Bool.false_or, Bool.and_true, Bool.true_and, Bool.and_false, Bool.false_and, Bool.not_true, Bool.not_false, reduceCtorEq, beq_self_eq_true, true_and, and_true, if_true, if_false, Bool.false_eq_true]
  refine al_i fun a ha => ?_
  have ga : put h5 a (.lst (A.map sD)) a = some (.lst (A.map sD)) := put_same
  have P6 := pool_keep (o := .lst (A.map sD)) P5 ha
  generalize put h5 a (.lst (A.map sD)) = h6 at ga P6
  try simp -dsimp -implicitDefEqProofs only [↓rds13, ↓rds14, ↓ers, ↓rds1, ↓rds2, ↓rds3, ↓rds4, ↓rds5, ↓rds6, ↓rds7, ↓rds8, ↓rds9, ↓rds10, ↓rds11, ↓rds12, List.set_cons_zero, List.set_cons_succ, ne_eq, not_false_eq_true, decide_eq_true_eq, Bool.or_true, Bool.or_false, Bool.true_or, Bool.false_or, Bool.and_true, Bool.true_and, Bool.and_false, Bool.false_and, Bool.not_true, Bool.not_false, reduceCtorEq, beq_self_eq_true, true_and, and_true, if_true, if_false, Bool.false_eq_true]
  refine al_i fun b hb => ?_
  have gb : put h6 b (.lst (B.map sD)) b = some (.lst (B.map sD)) := put_same
  have ga2 : put h6 b (.lst (B.map sD)) a = some (.lst (A.map sD)) := by rw [put_ne (on ga hb)]; exact ga
  have P7 := pool_keep (o := .lst (B.map sD)) P6 hb
  generalize put h6 b (.lst (B.map sD)) = h7 at gb ga2 P7
  try simp -dsimp -implicitDefEqProofs only [↓rds13, ↓rds14, ↓ers, ↓rds1, ↓rds2, ↓rds3, ↓rds4, ↓rds5, ↓rds6, ↓rds7, ↓rds8, ↓rds9, ↓rds10, ↓rds11, ↓rds12, List.set_cons_zero, List.set_cons_succ, ne_eq, not_false_eq_true, decide_eq_true_eq, Bool.or_true, Bool.or_false, Bool.true_or, Bool.false_or, Bool.and_true, Bool.true_and, Bool.and_false, Bool.false_and, Bool.not_true, Bool.not_false, reduceCtorEq, beq_self_eq_true, true_and, and_true, if_true, if_false, Bool.false_eq_true, ga2, gb, List.length_map]
  refine ⟨Nat.le_trans (show A.length + B.length ≤ 1000 by omega) (by decide), al_i fun c hc => ?_⟩
  have P8 := pool_keep (o := .lst (A.map sD ++ B.map sD)) P7 hc
  have gc : put h7 c (.lst (A.map sD ++ B.map sD)) c = some (.lst ((A ++ B).map sD)) := by rw [put_same, List.map_append]
  generalize put h7 c (.lst (A.map sD ++ B.map sD)) = h8 at P8 gc
  try simp -dsimp -implicitDefEqProofs only [↓rds13, ↓rds14, ↓ers, ↓rds1, ↓rds2, ↓rds3, ↓rds4, ↓rds5, ↓rds6, ↓rds7, ↓rds8, ↓rds9, ↓rds10, ↓rds11, ↓rds12, List.set_cons_zero, List.set_cons_succ, ne_eq, not_false_eq_true, decide_eq_true_eq, Bool.or_true, Bool.or_false, Bool.true_or, Bool.false_or, Bool.and_true, Bool.true_and, Bool.and_false, Bool.false_and, Bool.not_true, Bool.not_false, reduceCtorEq, beq_self_eq_true, true_and, and_true, if_true, if_false, Bool.false_eq_true]
  refine cl_i ⟨rfl, kind, _, A ++ B, h8, rfl, hk, .inr ⟨c, rfl, gc⟩, lab, Sub.refl _, ?_⟩
  try simp -dsimp -implicitDefEqProofs only [↓rds13, ↓rds14, ↓ers, ↓rds1, ↓rds2, ↓rds3, ↓rds4, ↓rds5, ↓rds6, ↓rds7, ↓rds8, ↓rds9, ↓rds10, ↓rds11, ↓rds12, List.set_cons_zero, List.set_cons_succ, ne_eq, not_false_eq_true, decide_eq_true_eq, Bool.or_true, Bool.or_false, Bool.true_or, Bool.false_or, Bool.and_true, Bool.true_and, Bool.and_false, Bool.false_and, Bool.not_true, Bool.not_false, reduceCtorEq, beq_self_eq_true, true_and, and_true, if_true, if_false, Bool.false_eq_true]
  refine cl_i ⟨rfl, _, _, rfl, same_refl (sm3 (o1000 _)), ?_⟩
  clear gc ga ga2 gb
  try simp -dsimp -implicitDefEqProofs only [↓rds13, ↓rds14, ↓ers, ↓rds1, ↓rds2, ↓rds3, ↓rds4, ↓rds5, ↓rds6, ↓rds7, ↓rds8, ↓rds9, ↓rds10, ↓rds11, ↓rds12, List.set_cons_zero, List.set_cons_succ, ne_eq, not_false_eq_true, decide_eq_true_eq, Bool.or_true, Bool.or_false, Bool.true_or, Bool.false_or, Bool.and_true, Bool.true_and, Bool.and_false, Bool.false_and, Bool.not_true, Bool.not_false, reduceCtorEq, beq_self_eq_true, true_and, and_true, if_true, if_false, Bool.false_eq_true]
  refine cmp_keep (i := 9) (j := 4) (y := .t (B.map sD)) (fun w => decide (w ∈ B)) (fun w Q q => ?_) (by show 9 < 10; decide) rfl (by decide) trivial (by omega) ?_
  · try simp -dsimp -implicitDefEqProofs only [↓rds13, ↓rds14, ↓ers, ↓rds1, ↓rds2, ↓rds3, ↓rds4, ↓rds5, ↓rds6, ↓rds7, ↓rds8, ↓rds9, ↓rds10, ↓rds11, ↓rds12, List.set_cons_zero, List.set_cons_succ, ne_eq, not_false_eq_true, decide_eq_true_eq, Bool.or_true, Bool.or_false, Bool.true_or, Bool.false_or, Bool.and_true, Bool.true_and, Bool.and_false, Bool.false_and, Bool.not_true, Bool.not_false, reduceCtorEq, beq_self_eq_true, true_and, and_true, if_true, if_false, Bool.false_eq_true, inL_sD, flat_sD]
    exact ⟨rfl, q⟩
  intro d hd
  have P9 := pool_keep (o := .lst ((A.filter fun w => decide (w ∈ B)).map sD)) P8 hd
  have gd : put h8 d (.lst ((A.filter fun w => decide (w ∈ B)).map sD)) d = some (.lst ((A.filter fun w => decide (w ∈ B)).map sD)) := put_same
  generalize put h8 d (.lst ((A.filter fun w => decide (w ∈ B)).map sD)) = h9 at P9 gd
  have lf : (A.filter fun w => decide (w ∈ B)).length ≤ 1000 := Nat.le_trans (List.length_filter_le _ _) (by omega)
  try simp -dsimp -implicitDefEqProofs only [↓rds13, ↓rds14, ↓ers, ↓rds1, ↓rds2, ↓rds3, ↓rds4, ↓rds5, ↓rds6, ↓rds7, ↓rds8, ↓rds9, ↓rds10, ↓rds11, ↓rds12, List.set_cons_zero, List.set_cons_succ, ne_eq, not_false_eq_true, decide_eq_true_eq, Bool.or_true, Bool.or_false, Bool.true_or, Bool.false_or, Bool.and_true, Bool.true_and, Bool.and_false, Bool.false_and, Bool.not_true, Bool.not_false, reduceCtorEq, beq_self_eq_true, true_and, and_true, if_true, if_false, Bool.false_eq_true]
  refine cl_i ⟨rfl, kind, A, B, rfl, by omega, by omega, ?_⟩
  try simp -dsimp -implicitDefEqProofs only [↓rds13, ↓rds14, ↓ers, ↓rds1, ↓rds2, ↓rds3, ↓rds4, ↓rds5, ↓rds6, ↓rds7, ↓rds8, ↓rds9, ↓rds10, ↓rds11, ↓rds12, List.set_cons_zero, List.set_cons_succ, ne_eq, not_false_eq_true, decide_eq_true_eq, Bool.or_true, Bool.or_false, Bool.true_or, Bool.false_or, Bool.and_true, Bool.true_and, Bool.and_false, Bool.false_and, Bool.not_true, Bool.not_false, reduceCtorEq, beq_self_eq_true, true_and, and_true, if_true, if_false, Bool.false_eq_true]
  refine cl_i ⟨rfl, kind, _, A.filter fun w => decide (w ∈ B), h9, rfl, hk, .inr ⟨d, rfl, gd⟩, lf, Sub.refl _, ?_⟩
  rw [show ordL kind (A.filter fun w => decide (w ∈ B)) = A.filter fun w => decide (w ∈ B) from lot_sub lA _]
  try simp -dsimp -implicitDefEqProofs only [↓rds13, ↓rds14, ↓ers, ↓rds1, ↓rds2, ↓rds3, ↓rds4, ↓rds5, ↓rds6, ↓rds7, ↓rds8, ↓rds9, ↓rds10, ↓rds11, ↓rds12, List.set_cons_zero, List.set_cons_succ, ne_eq, not_false_eq_true, decide_eq_true_eq, Bool.or_true, Bool.or_false, Bool.true_or, Bool.false_or, Bool.and_true, Bool.true_and, Bool.and_false, Bool.false_and, Bool.not_true, Bool.not_false, reduceCtorEq, beq_self_eq_true, true_and, and_true, if_true, if_false, Bool.false_eq_true]
  refine cl_i ⟨rfl, _, _, rfl, same_refl (sm3 lf), ?_⟩
  try simp -dsimp -implicitDefEqProofs only [↓rds13, ↓rds14, ↓ers, ↓rds1, ↓rds2, ↓rds3, ↓rds4, ↓rds5, ↓rds6, ↓rds7, ↓rds8, ↓rds9, ↓rds10, ↓rds11, ↓rds12, List.set_cons_zero, List.set_cons_succ, ne_eq, not_false_eq_true, decide_eq_true_eq, Bool.or_true, Bool.or_false, Bool.true_or, Bool.false_or, Bool.and_true, Bool.true_and, Bool.and_false, Bool.false_and, Bool.not_true, Bool.not_false, reduceCtorEq, beq_self_eq_true, true_and, and_true, if_true, if_false, Bool.false_eq_true]
  refine cl_i ⟨rfl, kind, rfl, hk, fun r hr => ?_⟩
  have P10 := pool_keep (o := .lst ((wsL kind).map sD)) P9 hr
  have gr : put h9 r (.lst ((wsL kind).map sD)) r = some (.lst ((wsL kind).map sD)) := put_same
  generalize put h9 r (.lst ((wsL kind).map sD)) = h10 at P10 gr
  try simp -dsimp -implicitDefEqProofs only [↓rds13, ↓rds14, ↓ers, ↓rds1, ↓rds2, ↓rds3, ↓rds4, ↓rds5, ↓rds6, ↓rds7, ↓rds8, ↓rds9, ↓rds10, ↓rds11, ↓rds12, List.set_cons_zero, List.set_cons_succ, ne_eq, not_false_eq_true, decide_eq_true_eq, Bool.or_true, Bool.or_false, Bool.true_or, Bool.false_or, Bool.and_true, Bool.true_and, Bool.and_false, Bool.false_and, Bool.not_true, Bool.not_false, reduceCtorEq, beq_self_eq_true, true_and, and_true, if_true, if_false, Bool.false_eq_true, gr]
  refine cmp_keep (i := 9) (j := 3) (y := .t (A.map sD)) (fun w => !decide (w ∈ A)) (fun w Q q => ?_) (by show 9 < 10; decide) rfl (by decide) (rdL_l gr) (Nat.le_trans (ws_ne hk).2 (by decide)) ?_
  · try simp -dsimp -implicitDefEqProofs only [↓rds13, ↓rds14, ↓ers, ↓rds1, ↓rds2, ↓rds3, ↓rds4, ↓rds5, ↓rds6, ↓rds7, ↓rds8, ↓rds9, ↓rds10, ↓rds11, ↓rds12, List.set_cons_zero, List.set_cons_succ, ne_eq, not_false_eq_true, decide_eq_true_eq, Bool.or_true, Bool.or_false, Bool.true_or, Bool.false_or, Bool.and_true, Bool.true_and, Bool.and_false, Bool.false_and, Bool.not_true, Bool.not_false, reduceCtorEq, beq_self_eq_true, true_and, and_true, if_true, if_false, Bool.false_eq_true, inL_sD, flat_sD]
    exact ⟨rfl, q⟩
  intro e he
  have P11 := pool_keep (o := .lst (((wsL kind).filter fun w => !decide (w ∈ A)).map sD)) P10 he
  have ge : put h10 e (.lst (((wsL kind).filter fun w => !decide (w ∈ A)).map sD)) e = some (.lst (((wsL kind).filter fun w => !decide (w ∈ A)).map sD)) := put_same
  generalize put h10 e (.lst (((wsL kind).filter fun w => !decide (w ∈ A)).map sD)) = h11 at P11 ge
  try simp -dsimp -implicitDefEqProofs only [↓rds13, ↓rds14, ↓ers, ↓rds1, ↓rds2, ↓rds3, ↓rds4, ↓rds5, ↓rds6, ↓rds7, ↓rds8, ↓rds9, ↓rds10, ↓rds11, ↓rds12, List.set_cons_zero, List.set_cons_succ, ne_eq, not_false_eq_true, decide_eq_true_eq, Bool.or_true, Bool.or_false, Bool.true_or, Bool.false_or, Bool.and_true, Bool.true_and, Bool.and_false, Bool.false_and, Bool.not_true, Bool.not_false, reduceCtorEq, beq_self_eq_true, true_and, and_true, if_true, if_false, Bool.false_eq_true]
  refine cl_i ⟨rfl, kind, A, rfl, hk, by omega, ?_⟩
  try simp -dsimp -implicitDefEqProofs only [↓rds13, ↓rds14, ↓ers, ↓rds1, ↓rds2, ↓rds3, ↓rds4, ↓rds5, ↓rds6, ↓rds7, ↓rds8, ↓rds9, ↓rds10, ↓rds11, ↓rds12, List.set_cons_zero, List.set_cons_succ, ne_eq, not_false_eq_true, decide_eq_true_eq, Bool.or_true, Bool.or_false, Bool.true_or, Bool.false_or, Bool.and_true, Bool.true_and, Bool.and_false, Bool.false_and, Bool.not_true, Bool.not_false, reduceCtorEq, beq_self_eq_true, true_and, and_true, if_true, if_false, Bool.false_eq_true, ge]
  refine cl_i ⟨rfl, _, _, rfl, same_refl (sm3 (Nat.le_trans (List.length_filter_le _ _) (Nat.le_trans (ws_ne hk).2 (by decide)))), ?_⟩
  try simp -dsimp -implicitDefEqProofs only [↓rds13, ↓rds14, ↓ers, ↓rds1, ↓rds2, ↓rds3, ↓rds4, ↓rds5, ↓rds6, ↓rds7, ↓rds8, ↓rds9, ↓rds10, ↓rds11, ↓rds12, List.set_cons_zero, List.set_cons_succ, ne_eq, not_false_eq_true, decide_eq_true_eq, Bool.or_true, Bool.or_false, Bool.true_or, Bool.false_or, Bool.and_true, Bool.true_and, Bool.and_false, Bool.false_and, Bool.not_true, Bool.not_false, reduceCtorEq, beq_self_eq_true, true_and, and_true, if_true, if_false, Bool.false_eq_true]
  refine cl_i ⟨rfl, kind, A, rfl, hk, fun w hw => lA.mem hw, by omega, ?_⟩
  try simp -dsimp -implicitDefEqProofs only [↓rds13, ↓rds14, ↓ers, ↓rds1, ↓rds2, ↓rds3, ↓rds4, ↓rds5, ↓rds6, ↓rds7, ↓rds8, ↓rds9, ↓rds10, ↓rds11, ↓rds12, List.set_cons_zero, List.set_cons_succ, ne_eq, not_false_eq_true, decide_eq_true_eq, Bool.or_true, Bool.or_false, Bool.true_or, Bool.false_or, Bool.and_true, Bool.true_and, Bool.and_false, Bool.false_and, Bool.not_true, Bool.not_false, reduceCtorEq, beq_self_eq_true, true_and, and_true, if_true, if_false, Bool.false_eq_true]
  refine cmp_map (onS (bkF kind)) trivial (by rw [List.length_map]; omega) ?_ ?_
  · intro x hx S N hS
    obtain ⟨w, hw, rfl⟩ := List.mem_map.mp hx
    have hS : S (sD (bkF kind w)) _ := hS
    try simp -dsimp -implicitDefEqProofs only [↓rds13, ↓rds14, ↓ers, ↓rds1, ↓rds2, ↓rds3, ↓rds4, ↓rds5, ↓rds6, ↓rds7, ↓rds8, ↓rds9, ↓rds10, ↓rds11, ↓rds12, List.set_cons_zero, List.set_cons_succ, ne_eq, not_false_eq_true, decide_eq_true_eq, Bool.or_true, Bool.or_false, Bool.true_or, Bool.false_or, Bool.and_true, Bool.true_and, Bool.and_false, Bool.false_and, Bool.not_true, Bool.not_false, reduceCtorEq, beq_self_eq_true, true_and, and_true, if_true, if_false, Bool.false_eq_true, sD]
    exact cl_i ⟨rfl, kind, w, rfl, hk, lA.mem hw, hS⟩
  intro f hf
  have P12 := pool_keep (o := .lst ((A.map sD).map (onS (bkF kind)))) P11 hf
  have gf : put h11 f (.lst ((A.map sD).map (onS (bkF kind)))) f = some (.lst ((A.map (bkF kind)).map sD)) := by rw [put_same, onS_sD]
  generalize put h11 f (.lst ((A.map sD).map (onS (bkF kind)))) = h12 at P12 gf
  try simp -dsimp -implicitDefEqProofs only [↓rds13, ↓rds14, ↓ers, ↓rds1, ↓rds2, ↓rds3, ↓rds4, ↓rds5, ↓rds6, ↓rds7, ↓rds8, ↓rds9, ↓rds10, ↓rds11, ↓rds12, List.set_cons_zero, List.set_cons_succ, ne_eq, not_false_eq_true, decide_eq_true_eq, Bool.or_true, Bool.or_false, Bool.true_or, Bool.false_or, Bool.and_true, Bool.true_and, Bool.and_false, Bool.false_and, Bool.not_true, Bool.not_false, reduceCtorEq, beq_self_eq_true, true_and, and_true, if_true, if_false, Bool.false_eq_true]
  refine cl_i ⟨rfl, kind, _, A.map (bkF kind), h12, rfl, hk, .inr ⟨f, rfl, gf⟩, by rw [List.length_map]; omega, Sub.refl _, ?_⟩
  try simp -dsimp -implicitDefEqProofs only [↓rds13, ↓rds14, ↓ers, ↓rds1, ↓rds2, ↓rds3, ↓rds4, ↓rds5, ↓rds6, ↓rds7, ↓rds8, ↓rds9, ↓rds10, ↓rds11, ↓rds12, List.set_cons_zero, List.set_cons_succ, ne_eq, not_false_eq_true, decide_eq_true_eq, Bool.or_true, Bool.or_false, Bool.true_or, Bool.false_or, Bool.and_true, Bool.true_and, Bool.and_false, Bool.false_and, Bool.not_true, Bool.not_false, reduceCtorEq, beq_self_eq_true, true_and, and_true, if_true, if_false, Bool.false_eq_true]
  refine cl_i ⟨rfl, _, _, rfl, same_refl (sm3 (o1000 _)), ?_⟩
  try simp -dsimp -implicitDefEqProofs only [↓rds13, ↓rds14, ↓ers, ↓rds1, ↓rds2, ↓rds3, ↓rds4, ↓rds5, ↓rds6, ↓rds7, ↓rds8, ↓rds9, ↓rds10, ↓rds11, ↓rds12, List.set_cons_zero, List.set_cons_succ, ne_eq, not_false_eq_true, decide_eq_true_eq, Bool.or_true, Bool.or_false, Bool.true_or, Bool.false_or, Bool.and_true, Bool.true_and, Bool.and_false, Bool.false_and, Bool.not_true, Bool.not_false, reduceCtorEq, beq_self_eq_true, true_and, and_true, if_true, if_false, Bool.false_eq_true]
  refine cl_i ⟨rfl, kind, B, rfl, hk, fun w hw => lB.mem hw, by omega, ?_⟩
  try simp -dsimp -implicitDefEqProofs only [↓rds13, ↓rds14, ↓ers, ↓rds1, ↓rds2, ↓rds3, ↓rds4, ↓rds5, ↓rds6, ↓rds7, ↓rds8, ↓rds9, ↓rds10, ↓rds11, ↓rds12, List.set_cons_zero, List.set_cons_succ, ne_eq, not_false_eq_true, decide_eq_true_eq, Bool.or_true, Bool.or_false, Bool.true_or, Bool.false_or, Bool.and_true, Bool.true_and, Bool.and_false, Bool.false_and, Bool.not_true, Bool.not_false, reduceCtorEq, beq_self_eq_true, true_and, and_true, if_true, if_false, Bool.false_eq_true]
  refine cmp_map (onS (mrF kind)) trivial (by rw [List.length_map]; omega) ?_ ?_
  · intro x hx S N hS
    obtain ⟨w, hw, rfl⟩ := List.mem_map.mp hx
    have hS : S (sD (mrF kind w)) _ := hS
    try simp -dsimp -implicitDefEqProofs only [↓rds13, ↓rds14, ↓ers, ↓rds1, ↓rds2, ↓rds3, ↓rds4, ↓rds5, ↓rds6, ↓rds7, ↓rds8, ↓rds9, ↓rds10, ↓rds11, ↓rds12, List.set_cons_zero, List.set_cons_succ, ne_eq, not_false_eq_true, decide_eq_true_eq, Bool.or_true, Bool.or_false, Bool.true_or, Bool.false_or, Bool.and_true, Bool.true_and, Bool.and_false, Bool.false_and, Bool.not_true, Bool.not_false, reduceCtorEq, beq_self_eq_true, true_and, and_true, if_true, if_false, Bool.false_eq_true, sD]
    exact cl_i ⟨rfl, kind, w, rfl, hk, lB.mem hw, hS⟩
  intro g hg
  have P13 := pool_keep (o := .lst ((B.map sD).map (onS (mrF kind)))) P12 hg
  have gg : put h12 g (.lst ((B.map sD).map (onS (mrF kind)))) g = some (.lst ((B.map (mrF kind)).map sD)) := by rw [put_same, onS_sD]
  generalize put h12 g (.lst ((B.map sD).map (onS (mrF kind)))) = h13 at P13 gg
  try simp -dsimp -implicitDefEqProofs only [↓rds13, ↓rds14, ↓ers, ↓rds1, ↓rds2, ↓rds3, ↓rds4, ↓rds5, ↓rds6, ↓rds7, ↓rds8, ↓rds9, ↓rds10, ↓rds11, ↓rds12, List.set_cons_zero, List.set_cons_succ, ne_eq, not_false_eq_true, decide_eq_true_eq, Bool.or_true, Bool.or_false, Bool.true_or, Bool.false_or, Bool.and_true, Bool.true_and, Bool.and_false, Bool.false_and, Bool.not_true, Bool.not_false, reduceCtorEq, beq_self_eq_true, true_and, and_true, if_true, if_false, Bool.false_eq_true]
  refine cl_i ⟨rfl, kind, _, B.map (mrF kind), h13, rfl, hk, .inr ⟨g, rfl, gg⟩, by rw [List.length_map]; omega, Sub.refl _, ?_⟩
  try simp -dsimp -implicitDefEqProofs only [↓rds13, ↓rds14, ↓ers, ↓rds1, ↓rds2, ↓rds3, ↓rds4, ↓rds5, ↓rds6, ↓rds7, ↓rds8, ↓rds9, ↓rds10, ↓rds11, ↓rds12, List.set_cons_zero, List.set_cons_succ, ne_eq, not_false_eq_true, decide_eq_true_eq, Bool.or_true, Bool.or_false, Bool.true_or, Bool.false_or, Bool.and_true, Bool.true_and, Bool.and_false, Bool.false_and, Bool.not_true, Bool.not_false, reduceCtorEq, beq_self_eq_true, true_and, and_true, if_true, if_false, Bool.false_eq_true]
  refine cl_i ⟨rfl, _, _, rfl, same_refl (sm3 (o1000 _)), ?_⟩
  try simp -dsimp -implicitDefEqProofs only [↓rds13, ↓rds14, ↓ers, ↓rds1, ↓rds2, ↓rds3, ↓rds4, ↓rds5, ↓rds6, ↓rds7, ↓rds8, ↓rds9, ↓rds10, ↓rds11, ↓rds12, List.set_cons_zero, List.set_cons_succ, ne_eq, not_false_eq_true, decide_eq_true_eq, Bool.or_true, Bool.or_false, Bool.true_or, Bool.false_or, Bool.and_true, Bool.true_and, Bool.and_false, Bool.false_and, Bool.not_true, Bool.not_false, reduceCtorEq, beq_self_eq_true, true_and, and_true, if_true, if_false, Bool.false_eq_true]
  refine ⟨by decide, loop_of (fun i σ h' => PoolAt h' p q ns ∧ ∃ v7 v8 v9, σ = [some (.k (intsD ns)), some (.v (.ref p)), some (.v (.str kind)), some (.t (A.map sD)), some (.t (B.map sD)), some (.v (.ref d)), some (.v (.ref e)), v7, v8, v9]) ⟨P13, _, _, _, rfl⟩ (fun _ _ _ _ _ => trivial) ?_ ?_⟩
  · rintro i x σ h' hx ⟨P, v7, v8, v9, rfl⟩ N hN
    obtain ⟨hi, rfl⟩ := rangeD_get hx
    try simp -dsimp -implicitDefEqProofs only [↓rds13, ↓rds14, ↓ers, ↓rds1, ↓rds2, ↓rds3, ↓rds4, ↓rds5, ↓rds6, ↓rds7, ↓rds8, ↓rds9, ↓rds10, ↓rds11, ↓rds12, List.set_cons_zero, List.set_cons_succ, ne_eq, not_false_eq_true, decide_eq_true_eq, Bool.or_true, Bool.or_false, Bool.true_or, Bool.false_or, Bool.and_true, Bool.true_and, Bool.and_false, Bool.false_and, Bool.not_true, Bool.not_false, reduceCtorEq, beq_self_eq_true, true_and, and_true, if_true, if_false, Bool.false_eq_true]
    refine cl_i ⟨rfl, kind, A, B, rfl, hk, ab, lab, ?_⟩
    try simp -dsimp -implicitDefEqProofs only [↓rds13, ↓rds14, ↓ers, ↓rds1, ↓rds2, ↓rds3, ↓rds4, ↓rds5, ↓rds6, ↓rds7, ↓rds8, ↓rds9, ↓rds10, ↓rds11, ↓rds12, List.set_cons_zero, List.set_cons_succ, ne_eq, not_false_eq_true, decide_eq_true_eq, Bool.or_true, Bool.or_false, Bool.true_or, Bool.false_or, Bool.and_true, Bool.true_and, Bool.and_false, Bool.false_and, Bool.not_true, Bool.not_false, reduceCtorEq, beq_self_eq_true, true_and, and_true, if_true, if_false, Bool.false_eq_true]
    refine al_i fun t ht => ?_
    have nt := (pool_ne P ht).1
    have gt : put h' t (.lst [.t (A.map sD), .t (B.map sD), .t ((ordL kind (A ++ B)).map sD)]) t = some (.lst [.t (A.map sD), .t (B.map sD), .t ((ordL kind (A ++ B)).map sD)]) := put_same
    have P1 := pool_keep (o := .lst [.t (A.map sD), .t (B.map sD), .t ((ordL kind (A ++ B)).map sD)]) P ht
    generalize put h' t (.lst [.t (A.map sD), .t (B.map sD), .t ((ordL kind (A ++ B)).map sD)]) = h1 at P1 gt
    try simp -dsimp -implicitDefEqProofs only [↓rds13, ↓rds14, ↓ers, ↓rds1, ↓rds2, ↓rds3, ↓rds4, ↓rds5, ↓rds6, ↓rds7, ↓rds8, ↓rds9, ↓rds10, ↓rds11, ↓rds12, List.set_cons_zero, List.set_cons_succ, ne_eq, not_false_eq_true, decide_eq_true_eq, Bool.or_true, Bool.or_false, Bool.true_or, Bool.false_or, Bool.and_true, Bool.true_and, Bool.and_false, Bool.false_and, Bool.not_true, Bool.not_false, reduceCtorEq, beq_self_eq_true, true_and, and_true, if_true, if_false, Bool.false_eq_true]
    refine cl_i ⟨rfl, p, q, ns, 3, rfl, P1, by decide, by decide, fun k s k0 k1 => ?_⟩
    have P2 := pool_put P1 s
    have gt2 : put h1 p (poolO q s) t = some (.lst [.t (A.map sD), .t (B.map sD), .t ((ordL kind (A ++ B)).map sD)]) := by rw [put_ne nt]; exact gt
    generalize put h1 p (poolO q s) = h2 at P2 gt2
    obtain ⟨C, lC, ec⟩ : ∃ C, Lot kind C ∧ atI [D.t (A.map sD), D.t (B.map sD), D.t ((ordL kind (A ++ B)).map sD)] k = some (.t (C.map sD)) := by
      have : k = 0 ∨ k = 1 ∨ k = 2 := by omega
      rcases this with rfl | rfl | rfl
      · exact ⟨A, lA, at_0⟩
      · exact ⟨B, lB, at_1⟩
      · exact ⟨_, lot_ord _ _, at_2⟩
    try simp -dsimp -implicitDefEqProofs only [↓rds13, ↓rds14, ↓ers, ↓rds1, ↓rds2, ↓rds3, ↓rds4, ↓rds5, ↓rds6, ↓rds7, ↓rds8, ↓rds9, ↓rds10, ↓rds11, ↓rds12, List.set_cons_zero, List.set_cons_succ, ne_eq, not_false_eq_true, decide_eq_true_eq, Bool.or_true, Bool.or_false, Bool.true_or, Bool.false_or, Bool.and_true, Bool.true_and, Bool.and_false, Bool.false_and, Bool.not_true, Bool.not_false, reduceCtorEq, beq_self_eq_true, true_and, and_true, if_true, if_false, Bool.false_eq_true, gt2, ec]
    refine cl_i ⟨rfl, p, q, ns, kind, C, rfl, P2, hk, lC, fun v h3 P3 kv x3 => ?_⟩
    try simp -dsimp -implicitDefEqProofs only [↓rds13, ↓rds14, ↓ers, ↓rds1, ↓rds2, ↓rds3, ↓rds4, ↓rds5, ↓rds6, ↓rds7, ↓rds8, ↓rds9, ↓rds10, ↓rds11, ↓rds12, List.set_cons_zero, List.set_cons_succ, ne_eq, not_false_eq_true, decide_eq_true_eq, Bool.or_true, Bool.or_false, Bool.true_or, Bool.false_or, Bool.and_true, Bool.true_and, Bool.and_false, Bool.false_and, Bool.not_true, Bool.not_false, reduceCtorEq, beq_self_eq_true, true_and, and_true, if_true, if_false, Bool.false_eq_true]
    refine cl_i ⟨rfl, kind, v, rfl, hk, kv.1, kv.2, ?_⟩
    try simp -dsimp -implicitDefEqProofs only [↓rds13, ↓rds14, ↓ers, ↓rds1, ↓rds2, ↓rds3, ↓rds4, ↓rds5, ↓rds6, ↓rds7, ↓rds8, ↓rds9, ↓rds10, ↓rds11, ↓rds12, List.set_cons_zero, List.set_cons_succ, ne_eq, not_false_eq_true, decide_eq_true_eq, Bool.or_true, Bool.or_false, Bool.true_or, Bool.false_or, Bool.and_true, Bool.true_and, Bool.and_false, Bool.false_and, Bool.not_true, Bool.not_false, reduceCtorEq, beq_self_eq_true, true_and, and_true, if_true, if_false, Bool.false_eq_true]
    refine cl_i ⟨rfl, kind, v, rfl, hk, kv, ?_⟩
    try simp -dsimp -implicitDefEqProofs only [↓rds13, ↓rds14, ↓ers, ↓rds1, ↓rds2, ↓rds3, ↓rds4, ↓rds5, ↓rds6, ↓rds7, ↓rds8, ↓rds9, ↓rds10, ↓rds11, ↓rds12, List.set_cons_zero, List.set_cons_succ, ne_eq, not_false_eq_true, decide_eq_true_eq, Bool.or_true, Bool.or_false, Bool.true_or, Bool.false_or, Bool.and_true, Bool.true_and, Bool.and_false, Bool.false_and, Bool.not_true, Bool.not_false, reduceCtorEq, beq_self_eq_true, true_and, and_true, if_true, if_false, Bool.false_eq_true]
    refine cl_i ⟨rfl, _, _, rfl, same_refl (n := 3) rfl, ?_⟩
    try simp -dsimp -implicitDefEqProofs only [↓rds13, ↓rds14, ↓ers, ↓rds1, ↓rds2, ↓rds3, ↓rds4, ↓rds5, ↓rds6, ↓rds7, ↓rds8, ↓rds9, ↓rds10, ↓rds11, ↓rds12, List.set_cons_zero, List.set_cons_succ, ne_eq, not_false_eq_true, decide_eq_true_eq, Bool.or_true, Bool.or_false, Bool.true_or, Bool.false_or, Bool.and_true, Bool.true_and, Bool.and_false, Bool.false_and, Bool.not_true, Bool.not_false, reduceCtorEq, beq_self_eq_true, true_and, and_true, if_true, if_false, Bool.false_eq_true]
    exact hN _ _ ⟨P3, _, _, _, rfl⟩
  · rintro σ h' ⟨P, v7, v8, v9, rfl⟩
    try simp -dsimp -implicitDefEqProofs only [↓rds13, ↓rds14, ↓ers, ↓rds1, ↓rds2, ↓rds3, ↓rds4, ↓rds5, ↓rds6, ↓rds7, ↓rds8, ↓rds9, ↓rds10, ↓rds11, ↓rds12, List.set_cons_zero, List.set_cons_succ, ne_eq, not_false_eq_true, decide_eq_true_eq, Bool.or_true, Bool.or_false, Bool.true_or, Bool.false_or, Bool.and_true, Bool.true_and, Bool.and_false, Bool.false_and, Bool.not_true, Bool.not_false, reduceCtorEq, beq_self_eq_true, true_and, and_true, if_true, if_false, Bool.false_eq_true]
    exact finR (ret _)
end Lk03
namespace Lk03
open PySem L2 DL
def top (i : Nat) : Stmt := PySem.Challenge.pw_stretchways_k03_lots_of_ways.main.body.getD i (.Pass ⟨0, 0, 0, 0⟩)
abbrev s_law_pool : Stmt := top 35
abbrev s_law_draw : Stmt := top 36
abbrev s_law_ways : Stmt := top 39
abbrev s_law_lot : Stmt := top 43
abbrev s_is_way : Stmt := top 20
abbrev s_check_way : Stmt := top 21
abbrev s_place_of : Stmt := top 24
abbrev s_ordered : Stmt := top 26
abbrev s_lot_of : Stmt := top 28
abbrev s_law_told : Stmt := top 45
abbrev s_law_same : Stmt := top 37
abbrev s_law_words_hold : Stmt := top 46
abbrev s_law_drawn_lot : Stmt := top 44
abbrev s_joined_lots : Stmt := top 29
abbrev s_common : Stmt := top 30
abbrev s_ways : Stmt := top 19
abbrev s_other_ways : Stmt := top 31
abbrev s_ring_sample : Stmt := top 16
abbrev s_turned : Stmt := top 13
abbrev s_place : Stmt := top 14
abbrev s_ring_way : Stmt := top 15
abbrev s_back : Stmt := top 22
abbrev s_back_lot : Stmt := top 32
abbrev s_law_ring_row : Stmt := top 40
abbrev s_law_ring_way : Stmt := top 38
abbrev s_law_back : Stmt := top 41
abbrev s_mirrored : Stmt := top 23
abbrev s_mirrored_lot : Stmt := top 33
abbrev s_law_mirrored : Stmt := top 42
abbrev s_law_spoilt : Stmt := top 47
abbrev s_has_doubles : Stmt := top 1
abbrev s_is_lot : Stmt := top 27
abbrev s_law_is_lot : Stmt := top 48
abbrev s_law : Stmt := top 49
structure Txt (P : Program) (K : PySem.W.Frag) (mg : Str → Option Value) (w : World) : Prop where
  n_int : mg "int" = none
  n_len : mg "len" = none
  n_list : mg "list" = none
  n_tuple : mg "tuple" = none
  n_sorted : mg "sorted" = none
  n_isinstance : mg "isinstance" = none
  n_range : mg "range" = none
  n_bool : mg "bool" = none
  n_str : mg "str" = none
  n_max : mg "max" = none
  n_min : mg "min" = none
  e_UnknownKind : ExD P K mg "UnknownKind" ["kind"]
  e_BadWay : ExD P K mg "BadWay" ["way"]
  er : ErT K mg (tabOf erL) erOwn erFt (erL.map (·.1))
  i_RING : KTp K mg "RING" c_RING
  c_LINE : KC K mg "LINE" c_LINE
  c_RING : KC K mg "RING" c_RING
  c_KINDS : KC K mg "KINDS" c_KINDS
  k_BACK : KDc K mg w "BACK" k_BACK
  k_MIRRORED : KDc K mg w "MIRRORED" k_MIRRORED
  d_law_pool : Df K mg "_law_pool" s_law_pool ["script"]
  d_law_draw : Df K mg "_law_draw" s_law_draw ["pool", "many"]
  d_law_ways : Df K mg "_law_ways" s_law_ways ["kind"]
  d_law_lot : Df K mg "_law_lot" s_law_lot ["kind", "words"]
  d_is_way : Df K mg "is_way" s_is_way ["kind", "word"]
  d_check_way : Df K mg "check_way" s_check_way ["kind", "word"]
  d_place_of : Df K mg "place_of" s_place_of ["kind", "way"]
  d_ordered : Df K mg "ordered" s_ordered ["kind", "words"]
  d_lot_of : Df K mg "lot_of" s_lot_of ["kind", "words"]
  d_law_told : Df K mg "_law_told" s_law_told ["kind", "words"]
  d_law_same : Df K mg "_law_same" s_law_same ["actual", "due"]
  d_law_words_hold : Df K mg "_law_words_hold" s_law_words_hold ["pool", "kind"]
  d_law_drawn_lot : Df K mg "_law_drawn_lot" s_law_drawn_lot ["pool", "kind", "most"]
  d_joined_lots : Df K mg "joined_lots" s_joined_lots ["kind", "first", "second"]
  d_common : Df K mg "common" s_common ["kind", "first", "second"]
  d_ways : Df K mg "ways" s_ways ["kind"]
  d_other_ways : Df K mg "other_ways" s_other_ways ["kind", "lot"]
  d_ring_sample : Df K mg "ring_sample" s_ring_sample ["way"]
  d_turned : Df K mg "turned" s_turned ["start", "size", "moment"]
  d_place : Df K mg "place" s_place ["end", "moment"]
  d_ring_way : Df K mg "ring_way" s_ring_way ["first", "second"]
  d_back : Df K mg "back" s_back ["kind", "way"]
  d_back_lot : Df K mg "back_lot" s_back_lot ["kind", "lot"]
  d_law_ring_row : Df K mg "_law_ring_row" s_law_ring_row ["way"]
  d_law_ring_way : Df K mg "_law_ring_way" s_law_ring_way ["first", "second"]
  d_law_back : Df K mg "_law_back" s_law_back ["kind", "way"]
  d_mirrored : Df K mg "mirrored" s_mirrored ["kind", "way"]
  d_mirrored_lot : Df K mg "mirrored_lot" s_mirrored_lot ["kind", "lot"]
  d_law_mirrored : Df K mg "_law_mirrored" s_law_mirrored ["kind", "way"]
  d_law_spoilt : Df K mg "_law_spoilt" s_law_spoilt ["pool", "kind", "lot"]
  d_has_doubles : Df K mg "has_doubles" s_has_doubles ["values"]
  d_is_lot : Df K mg "is_lot" s_is_lot ["kind", "value"]
  d_law_is_lot : Df K mg "_law_is_lot" s_law_is_lot ["kind", "value"]
section
variable {P : Program} {w : World} {K : PySem.W.Frag} {mg : Str → Option Value} {base : Heap}
theorem sc_law_pool : FnScope ["script", "cell"] ["script"] (defScope s_law_pool) := ⟨rfl, rfl, rfl, by decide +kernel, rfl, by decide +kernel, by decide +kernel⟩
theorem fn_law_pool (T : Txt P K mg w) : Fd P w K mg base "_law_pool" 1 ["script"] sp_law_pool :=
  Fd.of T.d_law_pool sc_law_pool (fun _ _ _ _ q => q.1) rd_law_pool (fun f cdv A outer s H EV B E rg hr => have nd := sc_law_pool.nd
    ds_one (ds_ret (de_lst (da_cons (de_lc rg nd (di_any (de_sl (de_var 0) (do_none) (do_some (de_int)))) (blkOk_by (own := [("cell", 1)]) (N := N_law_pool) (sc := defScope s_law_pool) (by decide +kernel)) (fun _ _ _ _ _ => pg_name (i := 1) nd rfl (Or.inl rfl)) gw_name (fun _ _ _ _ _ => dts_nil) (fun _ _ _ _ _ => de_var 1)) (da_cons (de_int) (da_cons (de_int) (da_cons (de_int) (da_nil)))))))) ok_law_pool
theorem sc_law_draw : FnScope ["pool", "many", "cell", "one", "two", "found"] ["pool", "many"] (defScope s_law_draw) := ⟨rfl, rfl, rfl, by decide +kernel, rfl, by decide +kernel, by decide +kernel⟩
theorem fn_law_draw (T : Txt P K mg w) : Fd P w K mg base "_law_draw" 1 ["pool", "many"] sp_law_draw :=
  Fd.of T.d_law_draw sc_law_draw (fun _ _ _ _ q => q.1) rd_law_draw (fun f cdv A outer s H EV B E rg hr => have nd := sc_law_draw.nd
    ds_cons (ds_asg (de_op do_add (de_it hr (de_var 0) (de_int)) (de_int)) (dg_sub (de_var 0) (de_int) (dset_all hr)))
    (ds_cons (ds_if (dt_cmp do_gt (de_it hr (de_var 0) (de_int)) (de_int)) (ds_cons (ds_set (i := 5) nd (de_op do_mod (de_callTy ca_int T.n_int PyProof.Rows.boot_int (da_cons (de_it hr (de_var 0) (de_int)) (da_nil))) (de_var 1)))
    (ds_cons (ds_asg (de_op do_fdv (de_it hr (de_var 0) (de_int)) (de_var 1)) (dg_sub (de_var 0) (de_int) (dset_all hr)))
    (ds_one (ds_ret (de_var 5))))) (ds_nil))
    (ds_cons (ds_set (i := 2) nd (de_int))
    (ds_cons (ds_if (dt_cmp do_gt (de_callB ca_len T.n_len PySem.boot_len (da_cons (de_it hr (de_var 0) (de_int)) (da_nil))) (de_int)) (ds_cons (ds_set (i := 2) nd (de_it hr (de_it hr (de_var 0) (de_int)) (de_op do_mod (de_callTy ca_int T.n_int PyProof.Rows.boot_int (da_cons (de_it hr (de_var 0) (de_int)) (da_nil))) (de_callB ca_len T.n_len PySem.boot_len (da_cons (de_it hr (de_var 0) (de_int)) (da_nil))))))
    (ds_cons (ds_asg (de_op do_add (de_it hr (de_var 0) (de_int)) (de_int)) (dg_sub (de_var 0) (de_int) (dset_all hr)))
    (ds_one (ds_if (DW.dt (dw_and (dt_cmp do_le (de_it hr (de_var 0) (de_int)) (de_callB ca_len T.n_len PySem.boot_len (da_cons (de_it hr (de_var 0) (de_int)) (da_nil)))) (dw_and1 (dt_cmp do_ge (de_var 2) (de_op do_pow (de_int) (de_int)))))) (ds_cons (ds_asg (de_op do_fdv (de_var 2) (de_var 1)) (dg_sub (de_var 0) (de_int) (dset_all hr)))
    (ds_one (ds_ret (de_op do_mod (de_callTy ca_int T.n_int PyProof.Rows.boot_int (da_cons (de_var 2) (da_nil))) (de_var 1))))) (ds_nil))))) (ds_nil))
    (ds_cons (ds_set (i := 3) nd (de_op do_mod (de_callTy ca_int T.n_int PyProof.Rows.boot_int (da_cons (de_op do_add (de_op do_add (de_op do_mul (de_var 2) (de_int)) (de_op do_mul (de_it hr (de_var 0) (de_int)) (de_int))) (de_int)) (da_nil))) (de_int)))
    (ds_cons (ds_set (i := 4) nd (de_op do_mod (de_callTy ca_int T.n_int PyProof.Rows.boot_int (da_cons (de_op do_add (de_op do_add (de_op do_mul (de_var 3) (de_var 3)) (de_op do_fdv (de_var 2) (de_int))) (de_it hr (de_var 0) (de_int))) (da_nil))) (de_int)))
    (ds_one (ds_ret (de_op do_mod (de_op do_fdv (de_op do_mod (de_callTy ca_int T.n_int PyProof.Rows.boot_int (da_cons (de_op do_add (de_op do_mul (de_var 4) (de_int)) (de_var 3)) (da_nil))) (de_int)) (de_int)) (de_var 1)))))))))) ok_law_draw
theorem sc_law_ways : FnScope ["kind", "line", "found", "one", "other"] ["kind"] (defScope s_law_ways) := ⟨rfl, rfl, rfl, by decide +kernel, rfl, by decide +kernel, by decide +kernel⟩
theorem fn_law_ways (T : Txt P K mg w) : Fd P w K mg base "_law_ways" 1 ["kind"] sp_law_ways :=
  Fd.of T.d_law_ways sc_law_ways (fun _ _ _ _ q => q.1) rd_law_ways (fun f cdv A outer s H EV B E rg hr => have nd := sc_law_ways.nd
    ds_cons (ds_set (i := 1) nd (de_callTy (ca_list rg.calm) T.n_list PyProof.Rows.boot_list (da_cons (de_str) (da_nil))))
    (ds_cons (ds_if (dt_cmp (do_eqA hr) (de_var 0) (de_str)) (ds_one (ds_ret (de_var 1))) (ds_nil))
    (ds_cons (ds_if (dt_cmp (do_eqA hr) (de_var 0) (de_str)) (ds_one (ds_ret (de_bm PySem.F.plainAttrs_str PySem.F.slot_str_split PySem.F.type_str_split dm_split (de_str) (da_cons (de_str) (da_nil))))) (ds_nil))
    (ds_cons (ds_set (i := 2) nd (de_lst (da_nil)))
    (ds_cons (ds_for rg (di_any (de_var 1)) (dg_name (i := 3) nd) (ds_one (ds_set (i := 2) nd (de_op do_add (de_var 2) (de_lc rg nd (di_any (de_var 1)) (blkOk_by (own := [("other", 4)]) (N := N_law_ways) (sc := defScope s_law_ways) (by decide +kernel)) (fun _ _ _ _ _ => pg_name (i := 4) nd rfl (Or.inl rfl)) gw_name (fun _ _ _ _ _ => dts_nil) (fun _ _ _ _ _ => de_op do_add (de_var 3) (de_var 4)))))))
    (ds_one (ds_ret (de_var 2)))))))) ok_law_ways
theorem sc_law_lot : FnScope ["kind", "words", "inner", "word", "way"] ["kind", "words"] (defScope s_law_lot) := ⟨rfl, rfl, rfl, by decide +kernel, rfl, by decide +kernel, by decide +kernel⟩
theorem fn_law_lot (T : Txt P K mg w) (C_law_ways : Fd P w K mg base "_law_ways" 1 ["kind"] sp_law_ways) : Fd P w K mg base "_law_lot" 2 ["kind", "words"] sp_law_lot :=
  Fd.of T.d_law_lot sc_law_lot (fun _ _ _ _ q => q.1) rd_law_lot (fun f cdv A outer s H EV B E rg hr => have nd := sc_law_lot.nd
    ds_cons (ds_set (i := 2) nd (de_dnew))
    (ds_cons (ds_for rg (di_any (de_var 1)) (dg_name (i := 3) nd) (ds_one (ds_asg (de_bl) (dg_sub (de_var 2) (de_var 3) (dset_all hr)))))
    (ds_one (ds_ret (de_callTy ca_tuple T.n_tuple PyProof.Rows.boot_tuple (da_cons (de_lc rg nd (di_any (de_callF C_law_ways hr rg (da_cons (de_var 0) (da_nil)))) (blkOk_by (own := [("way", 4)]) (N := N_law_lot) (sc := defScope s_law_lot) (by decide +kernel)) (fun _ _ _ _ _ => pg_name (i := 4) nd rfl (Or.inl rfl)) gw_name (fun _ _ _ _ _ => dts_one (dt_cmp (do_mem hr) (de_var 4) (de_var 2))) (fun _ _ _ _ _ => de_var 4)) (da_nil))))))) ok_law_lot
theorem sc_is_way : FnScope ["kind", "word"] ["kind", "word"] (defScope s_is_way) := ⟨rfl, rfl, rfl, by decide +kernel, rfl, by decide +kernel, by decide +kernel⟩
theorem fn_is_way (T : Txt P K mg w) : Fd P w K mg base "is_way" 1 ["kind", "word"] sp_is_way :=
  Fd.of T.d_is_way sc_is_way (fun _ _ _ _ q => q.1) rd_is_way (fun f cdv A outer s H EV B E rg hr => have nd := sc_is_way.nd
    ds_cons (ds_if (dt_cmp (do_eqA hr) (de_var 0) (de_str)) (ds_one (ds_ret (de_and (de_cmp (do_eqA hr) (de_callB ca_len T.n_len PySem.boot_len (da_cons (de_var 1) (da_nil))) (de_int)) (de_one (de_cmp (do_mem hr) (de_var 1) (de_gc T.c_LINE)))))) (ds_nil))
    (ds_cons (ds_if (dt_cmp (do_eqA hr) (de_var 0) (de_str)) (ds_one (ds_ret (de_cmp (do_mem hr) (de_var 1) (de_gc T.c_RING)))) (ds_nil))
    (ds_one (ds_ret (de_and (de_cmp (do_eqA hr) (de_callB ca_len T.n_len PySem.boot_len (da_cons (de_var 1) (da_nil))) (de_int)) (de_and (de_cmp (do_mem hr) (de_it hr (de_var 1) (de_int)) (de_gc T.c_LINE)) (de_one (de_cmp (do_mem hr) (de_it hr (de_var 1) (de_int)) (de_gc T.c_LINE))))))))) ok_is_way
theorem sc_check_way : FnScope ["kind", "word"] ["kind", "word"] (defScope s_check_way) := ⟨rfl, rfl, rfl, by decide +kernel, rfl, by decide +kernel, by decide +kernel⟩
theorem fn_check_way (T : Txt P K mg w) (C_is_way : Fd P w K mg base "is_way" 1 ["kind", "word"] sp_is_way) : Fd P w K mg base "check_way" 3 ["kind", "word"] sp_check_way :=
  Fd.of T.d_check_way sc_check_way (fun _ _ _ _ q => q.1) rd_check_way (fun f cdv A outer s H EV B E rg hr => have nd := sc_check_way.nd
    ds_cons (ds_if (dt_cmp (do_notmem hr) (de_var 0) (de_gc T.c_KINDS)) (ds_one (ds_raiseD T.e_UnknownKind rg hr (by decide) (da_cons (de_var 0) (da_nil)))) (ds_nil))
    (ds_one (ds_if (dt_not (dt_val (de_callF C_is_way hr rg (da_cons (de_var 0) (da_cons (de_var 1) (da_nil)))))) (ds_one (ds_raiseD T.e_BadWay rg hr (by decide) (da_cons (de_var 1) (da_nil)))) (ds_nil)))) ok_check_way
theorem sc_place_of : FnScope ["kind", "way"] ["kind", "way"] (defScope s_place_of) := ⟨rfl, rfl, rfl, by decide +kernel, rfl, by decide +kernel, by decide +kernel⟩
theorem fn_place_of (T : Txt P K mg w) : Fd P w K mg base "place_of" 1 ["kind", "way"] sp_place_of :=
  Fd.of T.d_place_of sc_place_of (fun _ _ _ _ q => q.1) rd_place_of (fun f cdv A outer s H EV B E rg hr => have nd := sc_place_of.nd
    ds_cons (ds_if (dt_cmp (do_eqA hr) (de_var 0) (de_str)) (ds_one (ds_ret (de_bm PySem.F.plainAttrs_str PySem.F.slot_str_index PySem.F.type_str_index dm_sindex (de_gc T.c_LINE) (da_cons (de_var 1) (da_nil))))) (ds_nil))
    (ds_cons (ds_if (dt_cmp (do_eqA hr) (de_var 0) (de_str)) (ds_one (ds_ret (de_kix T.i_RING (da_cons (de_var 1) (da_nil))))) (ds_nil))
    (ds_one (ds_ret (de_op do_add (de_op do_mul (de_bm PySem.F.plainAttrs_str PySem.F.slot_str_index PySem.F.type_str_index dm_sindex (de_gc T.c_LINE) (da_cons (de_it hr (de_var 1) (de_int)) (da_nil))) (de_callB ca_len T.n_len PySem.boot_len (da_cons (de_gc T.c_LINE) (da_nil)))) (de_bm PySem.F.plainAttrs_str PySem.F.slot_str_index PySem.F.type_str_index dm_sindex (de_gc T.c_LINE) (da_cons (de_it hr (de_var 1) (de_int)) (da_nil)))))))) ok_place_of
theorem sc_ordered : FnScope ["kind", "words", "found", "word", "place"] ["kind", "words"] (defScope s_ordered) := ⟨rfl, rfl, rfl, by decide +kernel, rfl, by decide +kernel, by decide +kernel⟩
theorem fn_ordered (T : Txt P K mg w) (C_place_of : Fd P w K mg base "place_of" 1 ["kind", "way"] sp_place_of) : Fd P w K mg base "ordered" 2 ["kind", "words"] sp_ordered :=
  Fd.of T.d_ordered sc_ordered (fun _ _ _ _ q => q.1) rd_ordered (fun f cdv A outer s H EV B E rg hr => have nd := sc_ordered.nd
    ds_cons (ds_set (i := 2) nd (de_dnew))
    (ds_cons (ds_for rg (di_any (de_var 1)) (dg_name (i := 3) nd) (ds_one (ds_asg (de_var 3) (dg_sub (de_var 2) (de_callF C_place_of hr rg (da_cons (de_var 0) (da_cons (de_var 3) (da_nil)))) (dset_all hr)))))
    (ds_one (ds_ret (de_callTy ca_tuple T.n_tuple PyProof.Rows.boot_tuple (da_cons (de_lc rg nd (di_any (de_callB (ca_sortedA (by exact rg.calm)) T.n_sorted PyProof.Rows.boot_sorted (da_cons (de_var 2) (da_nil)))) (blkOk_by (own := [("place", 4)]) (N := N_ordered) (sc := defScope s_ordered) (by decide +kernel)) (fun _ _ _ _ _ => pg_name (i := 4) nd rfl (Or.inl rfl)) gw_name (fun _ _ _ _ _ => dts_nil) (fun _ _ _ _ _ => de_it hr (de_var 2) (de_var 4))) (da_nil))))))) ok_ordered
theorem sc_lot_of : FnScope ["kind", "words", "word"] ["kind", "words"] (defScope s_lot_of) := ⟨rfl, rfl, rfl, by decide +kernel, rfl, by decide +kernel, by decide +kernel⟩
theorem fn_lot_of (T : Txt P K mg w) (C_check_way : Fd P w K mg base "check_way" 3 ["kind", "word"] sp_check_way) (C_ordered : Fd P w K mg base "ordered" 2 ["kind", "words"] sp_ordered) : Fd P w K mg base "lot_of" 4 ["kind", "words"] sp_lot_of :=
  Fd.of T.d_lot_of sc_lot_of (fun _ _ _ _ q => q.1) rd_lot_of (fun f cdv A outer s H EV B E rg hr => have nd := sc_lot_of.nd
    ds_cons (ds_for rg (di_any (de_var 1)) (dg_name (i := 2) nd) (ds_one (ds_expr (de_callF C_check_way hr rg (da_cons (de_var 0) (da_cons (de_var 2) (da_nil)))))))
    (ds_one (ds_ret (de_callF C_ordered hr rg (da_cons (de_var 0) (da_cons (de_var 1) (da_nil))))))) ok_lot_of
theorem sc_law_told : FnScope ["kind", "words", "e", "odd"] ["kind", "words"] (defScope s_law_told) := ⟨rfl, rfl, rfl, by decide +kernel, rfl, by decide +kernel, by decide +kernel⟩
theorem fn_law_told (T : Txt P K mg w) (C_lot_of : Fd P w K mg base "lot_of" 4 ["kind", "words"] sp_lot_of) : Fd P w K mg base "_law_told" 5 ["kind", "words"] sp_law_told :=
  Fd.of T.d_law_told sc_law_told (fun _ _ _ _ q => q.1) rd_law_told (fun f cdv A outer s H EV B E rg hr => have nd := sc_law_told.nd
    ds_one (ds_try rg nd (fun pl xe Bt Et rg => ds_one (ds_ret (de_tup (da_cons (de_str) (da_cons (de_callF C_lot_of hr rg (da_cons (de_var 0) (da_cons (de_var 1) (da_nil)))) (da_nil)))))) (.named (er_known T.er (by decide)) (fun ea eo k dd pl hz hf x B rh rx => ds_cons (ds_set (i := 3) nd (de_isEs T.er hz hf rh rx T.n_isinstance (by decide) (pe_var (i := 2) rfl (Or.inl rfl) (by decide) (by decide)) (.cons (.cons (.cons .nil))) (fun e he r => by simp only [List.mem_cons, List.not_mem_nil, or_false] at he; rcases he with rfl | rfl | rfl <;> rfl)))
    (ds_one (ds_ret (de_tup (da_cons (de_str) (da_cons (de_xf T.er hz hf rh rx (de_var 2)) (da_cons (de_and (de_isE T.er hz hf rh rx T.n_isinstance (by decide) (pe_var (i := 2) rfl (Or.inl rfl) (by decide) (by decide))) (de_and (de_isE T.er hz hf rh rx T.n_isinstance (by decide) (pe_var (i := 2) rfl (Or.inl rfl) (by decide) (by decide))) (de_one (de_not (de_var 3))))) (da_nil)))))))) (.plain (er_known T.er (by decide)) (fun ea eo k dd pl hz hf x B rh rx => ds_one (ds_ret (de_tup (da_cons (de_str) (da_nil))))) (.nil))))) ok_law_told
theorem sc_law_same : FnScope ["actual", "due", "at"] ["actual", "due"] (defScope s_law_same) := ⟨rfl, rfl, rfl, by decide +kernel, rfl, by decide +kernel, by decide +kernel⟩
theorem fn_law_same (T : Txt P K mg w) (n k : Nat) (hk : 0 ≤ k) (C_law_same : Fd P w K mg base "_law_same" k ["actual", "due"] (sp_law_same n)) : Fd P w K mg base "_law_same" (k + 1) ["actual", "due"] (sp_law_same (n + 1)) :=
  Fd.of T.d_law_same sc_law_same (fun _ _ _ _ q => q.1) (rd_law_same n) (fun f cdv A outer s H EV B E rg hr => have nd := sc_law_same.nd
    ds_cons (ds_if (DW.dt (dw_or (dt_val (de_callB ca_isi T.n_isinstance PyProof.Rows.boot_isinstance (da_cons (de_var 1) (da_cons (de_type T.n_tuple PyProof.Rows.boot_tuple) (da_nil))))) (dw_or1 (dt_val (de_callB ca_isi T.n_isinstance PyProof.Rows.boot_isinstance (da_cons (de_var 1) (da_cons (de_type T.n_list PyProof.Rows.boot_list) (da_nil)))))))) (ds_cons (ds_if (DW.dt (dw_and (dt_val (de_callB ca_isi T.n_isinstance PyProof.Rows.boot_isinstance (da_cons (de_var 1) (da_cons (de_type T.n_tuple PyProof.Rows.boot_tuple) (da_nil))))) (dw_and1 (dt_not (dt_val (de_callB ca_isi T.n_isinstance PyProof.Rows.boot_isinstance (da_cons (de_var 0) (da_cons (de_type T.n_tuple PyProof.Rows.boot_tuple) (da_nil))))))))) (ds_one (ds_ret (de_bl))) (ds_nil))
    (ds_cons (ds_if (DW.dt (dw_and (dt_val (de_callB ca_isi T.n_isinstance PyProof.Rows.boot_isinstance (da_cons (de_var 1) (da_cons (de_type T.n_list PyProof.Rows.boot_list) (da_nil))))) (dw_and1 (dt_not (dt_val (de_callB ca_isi T.n_isinstance PyProof.Rows.boot_isinstance (da_cons (de_var 0) (da_cons (de_type T.n_list PyProof.Rows.boot_list) (da_nil))))))))) (ds_one (ds_ret (de_bl))) (ds_nil))
    (ds_cons (ds_if (dt_cmp (do_ne (u50 hr)) (de_callB ca_len T.n_len PySem.boot_len (da_cons (de_var 0) (da_nil))) (de_callB ca_len T.n_len PySem.boot_len (da_cons (de_var 1) (da_nil)))) (ds_one (ds_ret (de_bl))) (ds_nil))
    (ds_cons (ds_for rg (di_range1 T.n_range (da_cons (de_callB ca_len T.n_len PySem.boot_len (da_cons (de_var 1) (da_nil))) (da_nil))) (dg_name (i := 2) nd) (ds_one (ds_if (dt_not (dt_val (de_callF C_law_same hr rg (da_cons (de_it hr (de_var 0) (de_var 2)) (da_cons (de_it hr (de_var 1) (de_var 2)) (da_nil))) (Nat.le_refl _)))) (ds_one (ds_ret (de_bl))) (ds_nil))))
    (ds_one (ds_ret (de_bl))))))) (ds_nil))
    (ds_cons (ds_if (dt_cmp do_isA (de_var 1) (de_non)) (ds_one (ds_ret (de_cmp do_isA (de_var 0) (de_non)))) (ds_nil))
    (ds_cons (ds_if (dt_val (de_callB ca_isi T.n_isinstance PyProof.Rows.boot_isinstance (da_cons (de_var 1) (da_cons (de_type T.n_bool PyProof.Rows.boot_bool) (da_nil))))) (ds_one (ds_ret (de_and (de_callB ca_isi T.n_isinstance PyProof.Rows.boot_isinstance (da_cons (de_var 0) (da_cons (de_type T.n_bool PyProof.Rows.boot_bool) (da_nil)))) (de_one (de_cmp (do_eqA hr) (de_var 0) (de_var 1)))))) (ds_nil))
    (ds_cons (ds_if (dt_val (de_callB ca_isi T.n_isinstance PyProof.Rows.boot_isinstance (da_cons (de_var 1) (da_cons (de_type T.n_int PyProof.Rows.boot_int) (da_nil))))) (ds_one (ds_ret (de_and (de_callB ca_isi T.n_isinstance PyProof.Rows.boot_isinstance (da_cons (de_var 0) (da_cons (de_type T.n_int PyProof.Rows.boot_int) (da_nil)))) (de_and (de_not (de_callB ca_isi T.n_isinstance PyProof.Rows.boot_isinstance (da_cons (de_var 0) (da_cons (de_type T.n_bool PyProof.Rows.boot_bool) (da_nil))))) (de_one (de_cmp (do_eqA hr) (de_var 0) (de_var 1))))))) (ds_nil))
    (ds_one (ds_ret (de_and (de_callB ca_isi T.n_isinstance PyProof.Rows.boot_isinstance (da_cons (de_var 0) (da_cons (de_type T.n_str PyProof.Rows.boot_str) (da_nil)))) (de_one (de_cmp (do_eqA hr) (de_var 0) (de_var 1)))))))))) (ok_law_same n)
theorem sc_law_words_hold : FnScope ["pool", "kind", "every", "words", "wrong", "due", "given", "strange", "turn", "word"] ["pool", "kind"] (defScope s_law_words_hold) := ⟨rfl, rfl, rfl, by decide +kernel, rfl, by decide +kernel, by decide +kernel⟩
theorem fn_law_words_hold (T : Txt P K mg w) (C_law_ways : Fd P w K mg base "_law_ways" 1 ["kind"] sp_law_ways) (C_law_draw : Fd P w K mg base "_law_draw" 1 ["pool", "many"] sp_law_draw) (C_law_lot : Fd P w K mg base "_law_lot" 2 ["kind", "words"] sp_law_lot) (C_law_told : Fd P w K mg base "_law_told" 5 ["kind", "words"] sp_law_told) (C_law_same : Fd P w K mg base "_law_same" 3 ["actual", "due"] (sp_law_same 3)) : Fd P w K mg base "_law_words_hold" 6 ["pool", "kind"] sp_law_words_hold :=
  Fd.of T.d_law_words_hold sc_law_words_hold (fun _ _ _ _ q => q.1) rd_law_words_hold (fun f cdv A outer s H EV B E rg hr => have nd := sc_law_words_hold.nd
    ds_cons (ds_set (i := 2) nd (de_callF C_law_ways hr rg (da_cons (de_var 1) (da_nil))))
    (ds_cons (ds_setLc (i := 3) rg nd rfl rfl (sw_true rfl rfl rfl (by decide +kernel)) (di_range1 T.n_range (da_cons (de_callF C_law_draw hr rg (da_cons (de_var 0) (da_cons (de_int) (da_nil)))) (da_nil))) (blkOk_by (own := [("turn", 8)]) (N := N_law_words_hold) (sc := defScope s_law_words_hold) (by decide +kernel)) (fun _ _ _ _ _ => pg_name (i := 8) nd rfl (Or.inl rfl)) gw_name (fun _ _ _ _ _ => dts_nil) (fun _ _ _ _ _ => de_it hr (de_var 2) (de_callF C_law_draw hr (Rg.none rg.calm PassesOwn.never) (da_cons (de_var 0) (da_cons (de_callB ca_len T.n_len PySem.boot_len (da_cons (de_var 2) (da_nil))) (da_nil))))))
    (ds_cons (ds_if (DW.dt (dw_and (dt_cmp do_gt (de_callB ca_len T.n_len PySem.boot_len (da_cons (de_var 3) (da_nil))) (de_int)) (dw_and1 (dt_cmp (do_eqA hr) (de_callF C_law_draw hr rg (da_cons (de_var 0) (da_cons (de_int) (da_nil)))) (de_int))))) (ds_one (ds_asg (de_it hr (de_var 3) (de_int)) (dg_sub (de_var 3) (de_callF C_law_draw hr rg (da_cons (de_var 0) (da_cons (de_callB ca_len T.n_len PySem.boot_len (da_cons (de_var 3) (da_nil))) (da_nil)))) (dset_all hr)))) (ds_nil))
    (ds_cons (ds_if (dt_cmp (do_eqA hr) (de_callF C_law_draw hr rg (da_cons (de_var 0) (da_cons (de_int) (da_nil)))) (de_int)) (ds_cons (ds_set (i := 7) nd (de_lst (da_cons (de_str) (da_cons (de_str) (da_cons (de_str) (da_cons (de_str) (da_cons (de_str) (da_cons (de_str) (da_cons (de_str) (da_cons (de_str) (da_cons (de_str) (da_cons (de_str) (da_cons (de_str) (da_cons (de_str) (da_nil)))))))))))))))
    (ds_one (ds_for rg (di_range1 T.n_range (da_cons (de_op do_add (de_int) (de_callF C_law_draw hr rg (da_cons (de_var 0) (da_cons (de_int) (da_nil))))) (da_nil))) (dg_name (i := 8) nd) (ds_one (ds_expr (de_bm PySem.F.plainAttrs_list PySem.F.slot_list_insert PySem.F.type_list_insert dm_insert (de_var 3) (da_cons (de_callF C_law_draw hr rg (da_cons (de_var 0) (da_cons (de_op do_add (de_callB ca_len T.n_len PySem.boot_len (da_cons (de_var 3) (da_nil))) (de_int)) (da_nil)))) (da_cons (de_it hr (de_var 7) (de_callF C_law_draw hr rg (da_cons (de_var 0) (da_cons (de_int) (da_nil))))) (da_nil))))))))) (ds_nil))
    (ds_cons (ds_setLc (i := 4) rg nd rfl rfl (sw_true rfl rfl rfl (by decide +kernel)) (di_any (de_var 3)) (blkOk_by (own := [("word", 9)]) (N := N_law_words_hold) (sc := defScope s_law_words_hold) (by decide +kernel)) (fun _ _ _ _ _ => pg_name (i := 9) nd rfl (Or.inl rfl)) gw_name (fun _ _ _ _ _ => dts_one (dt_cmp (do_notmem hr) (de_var 9) (de_var 2))) (fun _ _ _ _ _ => de_var 9))
    (ds_cons (ds_set (i := 5) nd (de_tup (da_cons (de_str) (da_cons (de_callF C_law_lot hr rg (da_cons (de_var 1) (da_cons (de_var 3) (da_nil)))) (da_nil)))))
    (ds_cons (ds_if (dt_cmp do_gt (de_callB ca_len T.n_len PySem.boot_len (da_cons (de_var 4) (da_nil))) (de_int)) (ds_one (ds_set (i := 5) nd (de_tup (da_cons (de_str) (da_cons (de_it hr (de_var 4) (de_int)) (da_cons (de_bl) (da_nil))))))) (ds_nil))
    (ds_cons (ds_set (i := 6) nd (de_callTy (ca_list rg.calm) T.n_list PyProof.Rows.boot_list (da_cons (de_var 3) (da_nil))))
    (ds_one (ds_ret (de_and (de_callF C_law_same hr rg (da_cons (de_callF C_law_told hr rg (da_cons (de_var 1) (da_cons (de_var 6) (da_nil)))) (da_cons (de_var 5) (da_nil)))) (de_one (de_callF C_law_same hr rg (da_cons (de_var 6) (da_cons (de_var 3) (da_nil)))))))))))))))) ok_law_words_hold
theorem sc_law_drawn_lot : FnScope ["pool", "kind", "most", "every", "choice", "found", "turn", "way"] ["pool", "kind", "most"] (defScope s_law_drawn_lot) := ⟨rfl, rfl, rfl, by decide +kernel, rfl, by decide +kernel, by decide +kernel⟩
theorem fn_law_drawn_lot (T : Txt P K mg w) (C_law_ways : Fd P w K mg base "_law_ways" 1 ["kind"] sp_law_ways) (C_law_draw : Fd P w K mg base "_law_draw" 1 ["pool", "many"] sp_law_draw) (C_law_lot : Fd P w K mg base "_law_lot" 2 ["kind", "words"] sp_law_lot) : Fd P w K mg base "_law_drawn_lot" 3 ["pool", "kind", "most"] sp_law_drawn_lot :=
  Fd.of T.d_law_drawn_lot sc_law_drawn_lot (fun _ _ _ _ q => q.1) rd_law_drawn_lot (fun f cdv A outer s H EV B E rg hr => have nd := sc_law_drawn_lot.nd
    ds_cons (ds_set (i := 3) nd (de_callF C_law_ways hr rg (da_cons (de_var 1) (da_nil))))
    (ds_cons (ds_set (i := 4) nd (de_callF C_law_draw hr rg (da_cons (de_var 0) (da_cons (de_int) (da_nil)))))
    (ds_cons (ds_if (dt_cmp (do_eqA hr) (de_var 4) (de_int)) (ds_one (ds_ret (de_callTy ca_tuple T.n_tuple PyProof.Rows.boot_tuple (da_cons (de_var 3) (da_nil))))) (ds_nil))
    (ds_cons (ds_if (dt_cmp (do_eqA hr) (de_var 4) (de_int)) (ds_one (ds_ret (de_tup (da_nil)))) (ds_nil))
    (ds_cons (ds_set (i := 5) nd (de_lc rg nd (di_range1 T.n_range (da_cons (de_op do_add (de_int) (de_callF C_law_draw hr rg (da_cons (de_var 0) (da_cons (de_var 2) (da_nil))))) (da_nil))) (blkOk_by (own := [("turn", 6)]) (N := N_law_drawn_lot) (sc := defScope s_law_drawn_lot) (by decide +kernel)) (fun _ _ _ _ _ => pg_name (i := 6) nd rfl (Or.inl rfl)) gw_name (fun _ _ _ _ _ => dts_nil) (fun _ _ _ _ _ => de_it hr (de_var 3) (de_callF C_law_draw hr (Rg.none rg.calm PassesOwn.never) (da_cons (de_var 0) (da_cons (de_callB ca_len T.n_len PySem.boot_len (da_cons (de_var 3) (da_nil))) (da_nil)))))))
    (ds_cons (ds_if (dt_cmp (do_eqA hr) (de_var 4) (de_int)) (ds_one (ds_ret (de_callTy ca_tuple T.n_tuple PyProof.Rows.boot_tuple (da_cons (de_lc rg nd (di_any (de_var 3)) (blkOk_by (own := [("way", 7)]) (N := N_law_drawn_lot) (sc := defScope s_law_drawn_lot) (by decide +kernel)) (fun _ _ _ _ _ => pg_name (i := 7) nd rfl (Or.inl rfl)) gw_name (fun _ _ _ _ _ => dts_one (dt_cmp (do_notmem hr) (de_var 7) (de_var 5))) (fun _ _ _ _ _ => de_var 7)) (da_nil))))) (ds_nil))
    (ds_one (ds_ret (de_callF C_law_lot hr rg (da_cons (de_var 1) (da_cons (de_var 5) (da_nil)))))))))))) ok_law_drawn_lot
theorem sc_joined_lots : FnScope ["kind", "first", "second"] ["kind", "first", "second"] (defScope s_joined_lots) := ⟨rfl, rfl, rfl, by decide +kernel, rfl, by decide +kernel, by decide +kernel⟩
theorem fn_joined_lots (T : Txt P K mg w) (C_ordered : Fd P w K mg base "ordered" 2 ["kind", "words"] sp_ordered) : Fd P w K mg base "joined_lots" 3 ["kind", "first", "second"] sp_joined_lots :=
  Fd.of T.d_joined_lots sc_joined_lots (fun _ _ _ _ q => q.1) rd_joined_lots (fun f cdv A outer s H EV B E rg hr => have nd := sc_joined_lots.nd
    ds_one (ds_ret (de_callF C_ordered hr rg (da_cons (de_var 0) (da_cons (de_op do_add (de_var 1) (de_var 2)) (da_nil)))))) ok_joined_lots
theorem sc_common : FnScope ["kind", "first", "second", "inner", "way"] ["kind", "first", "second"] (defScope s_common) := ⟨rfl, rfl, rfl, by decide +kernel, rfl, by decide +kernel, by decide +kernel⟩
theorem fn_common (T : Txt P K mg w) : Fd P w K mg base "common" 1 ["kind", "first", "second"] sp_common :=
  Fd.of T.d_common sc_common (fun _ _ _ _ q => q.1) rd_common (fun f cdv A outer s H EV B E rg hr => have nd := sc_common.nd
    ds_cons (ds_set (i := 3) nd (de_dc rg nd (di_any (de_var 2)) (blkOk_by (own := [("way", 4)]) (N := N_common) (sc := defScope s_common) (by decide +kernel)) (fun _ _ _ _ _ => pg_name (i := 4) nd rfl (Or.inl rfl)) gw_name (fun _ _ _ _ _ => dts_nil) (fun _ _ _ _ _ => de_var 4) (fun _ _ _ _ _ => de_bl)))
    (ds_one (ds_ret (de_callTy ca_tuple T.n_tuple PyProof.Rows.boot_tuple (da_cons (de_lc rg nd (di_any (de_var 1)) (blkOk_by (own := [("way", 4)]) (N := N_common) (sc := defScope s_common) (by decide +kernel)) (fun _ _ _ _ _ => pg_name (i := 4) nd rfl (Or.inl rfl)) gw_name (fun _ _ _ _ _ => dts_one (dt_cmp (do_mem hr) (de_var 4) (de_var 3))) (fun _ _ _ _ _ => de_var 4)) (da_nil)))))) ok_common
theorem sc_ways : FnScope ["kind", "one", "other"] ["kind"] (defScope s_ways) := ⟨rfl, rfl, rfl, by decide +kernel, rfl, by decide +kernel, by decide +kernel⟩
theorem fn_ways (T : Txt P K mg w) : Fd P w K mg base "ways" 3 ["kind"] sp_ways :=
  Fd.of T.d_ways sc_ways (fun _ _ _ _ q => q.1) rd_ways (fun f cdv A outer s H EV B E rg hr => have nd := sc_ways.nd
    ds_cons (ds_if (dt_cmp (do_eqA hr) (de_var 0) (de_str)) (ds_one (ds_ret (de_callTy ca_tuple T.n_tuple PyProof.Rows.boot_tuple (da_cons (de_callTy (ca_list rg.calm) T.n_list PyProof.Rows.boot_list (da_cons (de_gc T.c_LINE) (da_nil))) (da_nil))))) (ds_nil))
    (ds_cons (ds_if (dt_cmp (do_eqA hr) (de_var 0) (de_str)) (ds_one (ds_ret (de_callTy ca_tuple T.n_tuple PyProof.Rows.boot_tuple (da_cons (de_callTy (ca_list rg.calm) T.n_list PyProof.Rows.boot_list (da_cons (de_gc T.c_RING) (da_nil))) (da_nil))))) (ds_nil))
    (ds_cons (ds_if (dt_cmp (do_eqA hr) (de_var 0) (de_str)) (ds_one (ds_ret (de_callTy ca_tuple T.n_tuple PyProof.Rows.boot_tuple (da_cons (id (by refine' de_lc2 (own := [("one", 1), ("other", 2)]) (vs1 := [2]) ?r ?n ?i ?o ?g ?w ?t ?i1 ?g1 ?w1 ?t1 ?e (by decide) (fun _ => rfl) (fun _ _ => rfl); (case r => exact rg); (case n => exact nd); (case i => exact di_any (de_gc T.c_LINE)); (case o => exact (blkOk_by (own := [("one", 1), ("other", 2)]) (N := N_ways) (sc := defScope s_ways) (by decide +kernel))); (case g => exact (fun _ _ _ _ _ => pg_name (i := 1) nd rfl (Or.inl rfl))); (case w => exact gw_name); (case t => exact (fun _ _ _ _ _ => dts_nil)); (case i1 => exact (fun _ _ _ _ _ => di_any (de_gc T.c_LINE))); (case g1 => exact (fun _ _ _ _ _ => pg_name (i := 2) (by exact nd) rfl (Or.inl rfl))); (case w1 => exact gw_name); (case t1 => exact (fun _ _ _ _ _ => dts_nil)); (case e => exact (fun _ _ _ _ _ => de_op do_add (de_var 1) (de_var 2))))) (da_nil))))) (ds_nil))
    (ds_one (ds_raiseD T.e_UnknownKind rg hr (by decide) (da_cons (de_var 0) (da_nil))))))) ok_ways
theorem sc_other_ways : FnScope ["kind", "lot", "inner", "way"] ["kind", "lot"] (defScope s_other_ways) := ⟨rfl, rfl, rfl, by decide +kernel, rfl, by decide +kernel, by decide +kernel⟩
theorem fn_other_ways (T : Txt P K mg w) (C_ways : Fd P w K mg base "ways" 3 ["kind"] sp_ways) : Fd P w K mg base "other_ways" 4 ["kind", "lot"] sp_other_ways :=
  Fd.of T.d_other_ways sc_other_ways (fun _ _ _ _ q => q.1) rd_other_ways (fun f cdv A outer s H EV B E rg hr => have nd := sc_other_ways.nd
    ds_cons (ds_set (i := 2) nd (de_dc rg nd (di_any (de_var 1)) (blkOk_by (own := [("way", 3)]) (N := N_other_ways) (sc := defScope s_other_ways) (by decide +kernel)) (fun _ _ _ _ _ => pg_name (i := 3) nd rfl (Or.inl rfl)) gw_name (fun _ _ _ _ _ => dts_nil) (fun _ _ _ _ _ => de_var 3) (fun _ _ _ _ _ => de_bl)))
    (ds_one (ds_ret (de_callTy ca_tuple T.n_tuple PyProof.Rows.boot_tuple (da_cons (de_lc rg nd (di_any (de_callF C_ways hr rg (da_cons (de_var 0) (da_nil)))) (blkOk_by (own := [("way", 3)]) (N := N_other_ways) (sc := defScope s_other_ways) (by decide +kernel)) (fun _ _ _ _ _ => pg_name (i := 3) nd rfl (Or.inl rfl)) gw_name (fun _ _ _ _ _ => dts_one (dt_cmp (do_notmem hr) (de_var 3) (de_var 2))) (fun _ _ _ _ _ => de_var 3)) (da_nil)))))) ok_other_ways
theorem sc_ring_sample : FnScope ["way", "places", "low"] ["way"] (defScope s_ring_sample) := ⟨rfl, rfl, rfl, by decide +kernel, rfl, by decide +kernel, by decide +kernel⟩
theorem fn_ring_sample (T : Txt P K mg w) : Fd P w K mg base "ring_sample" 1 ["way"] sp_ring_sample :=
  Fd.of T.d_ring_sample sc_ring_sample (fun _ _ _ _ q => q.1) rd_ring_sample (fun f cdv A outer s H EV B E rg hr => have nd := sc_ring_sample.nd
    ds_cons (ds_set (i := 1) nd (de_dispC (dps_cons (de_str) (show DE _ _ _ (dC (.v (.int 0))) from de_int) (dps_cons (de_str) (show DE _ _ _ (dC (.v (.int 1))) from de_int) (dps_cons (de_str) (show DE _ _ _ (dC (.v (.int 3))) from de_int) (dps_cons (de_str) (show DE _ _ _ (dC (.v (.int 4))) from de_int) (dps_nil)))))))
    (ds_cons (ds_if (dt_cmp (do_mem hr) (de_var 0) (de_tup (da_cons (de_str) (da_cons (de_str) (da_nil))))) (ds_one (ds_ret (de_tup (da_cons (de_tup (da_cons (de_int) (da_cons (de_int) (da_nil)))) (da_cons (de_tup (da_cons (de_it hr (de_var 1) (de_it hr (de_var 0) (de_int))) (da_cons (de_op do_add (de_it hr (de_var 1) (de_it hr (de_var 0) (de_int))) (de_int)) (da_nil)))) (da_nil)))))) (ds_nil))
    (ds_cons (ds_if (dt_cmp (do_mem hr) (de_var 0) (de_tup (da_cons (de_str) (da_cons (de_str) (da_nil))))) (ds_cons (ds_set (i := 2) nd (de_it hr (de_dispC (dps_cons (de_str) (show DE _ _ _ (dC (.v (.int 1))) from de_int) (dps_cons (de_str) (show DE _ _ _ (dC (.v (.int 4))) from de_int) (dps_nil)))) (de_var 0)))
    (ds_one (ds_ret (de_tup (da_cons (de_tup (da_cons (de_int) (da_cons (de_int) (da_nil)))) (da_cons (de_tup (da_cons (de_op do_add (de_var 2) (de_int)) (da_cons (de_var 2) (da_nil)))) (da_nil))))))) (ds_nil))
    (ds_one (ds_ret (de_tup (da_cons (de_tup (da_cons (de_int) (da_cons (de_int) (da_nil)))) (da_cons (de_tup (da_cons (de_it hr (de_var 1) (de_it hr (de_var 0) (de_int))) (da_cons (de_it hr (de_var 1) (de_it hr (de_var 0) (de_int))) (da_nil)))) (da_nil))))))))) ok_ring_sample
theorem sc_turned : FnScope ["start", "size", "moment"] ["start", "size", "moment"] (defScope s_turned) := ⟨rfl, rfl, rfl, by decide +kernel, rfl, by decide +kernel, by decide +kernel⟩
theorem fn_turned (T : Txt P K mg w) : Fd P w K mg base "turned" 1 ["start", "size", "moment"] sp_turned :=
  Fd.of T.d_turned sc_turned (fun _ _ _ _ q => q.1) rd_turned (fun f cdv A outer s H EV B E rg hr => have nd := sc_turned.nd
    ds_cons (ds_if (dt_cmp do_ge (de_var 2) (de_var 0)) (ds_one (ds_ret (de_op do_sub (de_var 2) (de_var 0)))) (ds_nil))
    (ds_one (ds_ret (de_op do_add (de_op do_sub (de_var 2) (de_var 0)) (de_var 1))))) ok_turned
theorem sc_place : FnScope ["end", "moment"] ["end", "moment"] (defScope s_place) := ⟨rfl, rfl, rfl, by decide +kernel, rfl, by decide +kernel, by decide +kernel⟩
theorem fn_place (T : Txt P K mg w) : Fd P w K mg base "place" 1 ["end", "moment"] sp_place :=
  Fd.of T.d_place sc_place (fun _ _ _ _ q => q.1) rd_place (fun f cdv A outer s H EV B E rg hr => have nd := sc_place.nd
    ds_cons (ds_if (dt_cmp (do_eqA hr) (de_var 1) (de_int)) (ds_one (ds_ret (de_str))) (ds_nil))
    (ds_cons (ds_if (dt_cmp do_lt (de_var 1) (de_var 0)) (ds_one (ds_ret (de_str))) (ds_nil))
    (ds_one (ds_ret (de_if (dt_cmp (do_eqA hr) (de_var 1) (de_var 0)) (de_str) (de_str)))))) ok_place
theorem sc_ring_way : FnScope ["first", "second", "size", "end", "one", "other", "way"] ["first", "second"] (defScope s_ring_way) := ⟨rfl, rfl, rfl, by decide +kernel, rfl, by decide +kernel, by decide +kernel⟩
theorem fn_ring_way (T : Txt P K mg w) (C_turned : Fd P w K mg base "turned" 1 ["start", "size", "moment"] sp_turned) (C_place : Fd P w K mg base "place" 1 ["end", "moment"] sp_place) : Fd P w K mg base "ring_way" 2 ["first", "second"] sp_ring_way :=
  Fd.of T.d_ring_way sc_ring_way (fun _ _ _ _ q => q.1) rd_ring_way (fun f cdv A outer s H EV B E rg hr => have nd := sc_ring_way.nd
    ds_cons (ds_set (i := 2) nd (de_op do_add (de_op do_sub (de_callB (ca_max rg.calm hr) T.n_max PyProof.Rows.boot_max (da_cons (de_op do_add (de_var 0) (de_var 1)) (da_nil))) (de_callB (ca_min rg.calm hr) T.n_min PyProof.Rows.boot_min (da_cons (de_op do_add (de_var 0) (de_var 1)) (da_nil)))) (de_int)))
    (ds_cons (ds_set (i := 3) nd (de_callF C_turned hr rg (da_cons (de_it hr (de_var 0) (de_int)) (da_cons (de_var 2) (da_cons (de_it hr (de_var 0) (de_int)) (da_nil))))))
    (ds_cons (ds_set (i := 4) nd (de_callF C_turned hr rg (da_cons (de_it hr (de_var 0) (de_int)) (da_cons (de_var 2) (da_cons (de_it hr (de_var 1) (de_int)) (da_nil))))))
    (ds_cons (ds_set (i := 5) nd (de_callF C_turned hr rg (da_cons (de_it hr (de_var 0) (de_int)) (da_cons (de_var 2) (da_cons (de_it hr (de_var 1) (de_int)) (da_nil))))))
    (ds_cons (ds_set (i := 6) nd (de_op do_add (de_callF C_place hr rg (da_cons (de_var 3) (da_cons (de_var 4) (da_nil)))) (de_callF C_place hr rg (da_cons (de_var 3) (da_cons (de_var 5) (da_nil))))))
    (ds_cons (ds_if (DW.dt (dw_and (dt_cmp (do_mem hr) (de_var 6) (de_tup (da_cons (de_str) (da_cons (de_str) (da_nil))))) (dw_and1 (dt_cmp do_lt (de_var 5) (de_var 4))))) (ds_one (ds_ret (de_it hr (de_dispC (dps_cons (de_str) (show DE _ _ _ (dC (.v (.str "II"))) from de_str) (dps_cons (de_str) (show DE _ _ _ (dC (.v (.str "OO"))) from de_str) (dps_nil)))) (de_var 6)))) (ds_nil))
    (ds_one (ds_ret (de_var 6))))))))) ok_ring_way
theorem sc_back : FnScope ["kind", "way", "first", "second", "one"] ["kind", "way"] (defScope s_back) := ⟨rfl, rfl, rfl, by decide +kernel, rfl, by decide +kernel, by decide +kernel⟩
theorem fn_back (T : Txt P K mg w) (C_check_way : Fd P w K mg base "check_way" 3 ["kind", "word"] sp_check_way) (C_ring_sample : Fd P w K mg base "ring_sample" 1 ["way"] sp_ring_sample) (C_ring_way : Fd P w K mg base "ring_way" 2 ["first", "second"] sp_ring_way) : Fd P w K mg base "back" 4 ["kind", "way"] sp_back :=
  Fd.of T.d_back sc_back (fun _ _ _ _ q => q.1) rd_back (fun f cdv A outer s H EV B E rg hr => have nd := sc_back.nd
    ds_cons (ds_expr (de_callF C_check_way hr rg (da_cons (de_var 0) (da_cons (de_var 1) (da_nil)))))
    (ds_cons (ds_if (dt_cmp (do_eqA hr) (de_var 0) (de_str)) (ds_cons (ds_asg (de_callF C_ring_sample hr rg (da_cons (de_var 1) (da_nil))) (dg_tup rg.calm (dgs_cons (dg_name (i := 2) nd) (dgs_cons (dg_name (i := 3) nd) (dgs_nil)))))
    (ds_one (ds_ret (de_callF C_ring_way hr rg (da_cons (de_var 3) (da_cons (de_var 2) (da_nil))))))) (ds_nil))
    (ds_one (ds_ret (de_bm PySem.F.plainAttrs_str PySem.F.slot_str_join PySem.F.type_str_join dm_join (de_str) (da_cons (de_lc rg nd (di_any (de_var 1)) (blkOk_by (own := [("one", 4)]) (N := N_back) (sc := defScope s_back) (by decide +kernel)) (fun _ _ _ _ _ => pg_name (i := 4) nd rfl (Or.inl rfl)) gw_name (fun _ _ _ _ _ => dts_nil) (fun _ _ _ _ _ => de_kdc T.k_BACK (de_var 4))) (da_nil))))))) ok_back
theorem sc_back_lot : FnScope ["kind", "lot", "way"] ["kind", "lot"] (defScope s_back_lot) := ⟨rfl, rfl, rfl, by decide +kernel, rfl, by decide +kernel, by decide +kernel⟩
theorem fn_back_lot (T : Txt P K mg w) (C_back : Fd P w K mg base "back" 4 ["kind", "way"] sp_back) (C_ordered : Fd P w K mg base "ordered" 2 ["kind", "words"] sp_ordered) : Fd P w K mg base "back_lot" 5 ["kind", "lot"] sp_back_lot :=
  Fd.of T.d_back_lot sc_back_lot (fun _ _ _ _ q => q.1) rd_back_lot (fun f cdv A outer s H EV B E rg hr => have nd := sc_back_lot.nd
    ds_one (ds_ret (de_callF C_ordered hr rg (da_cons (de_var 0) (da_cons (de_lc rg nd (di_any (de_var 1)) (blkOk_by (own := [("way", 2)]) (N := N_back_lot) (sc := defScope s_back_lot) (by decide +kernel)) (fun _ _ _ _ _ => pg_name (i := 2) nd rfl (Or.inl rfl)) gw_name (fun _ _ _ _ _ => dts_nil) (fun _ _ _ _ _ => de_callF C_back hr (Rg.none rg.calm PassesOwn.never) (da_cons (de_var 0) (da_cons (de_var 2) (da_nil))))) (da_nil)))))) ok_back_lot
theorem sc_law_ring_row : FnScope ["way", "rows"] ["way"] (defScope s_law_ring_row) := ⟨rfl, rfl, rfl, by decide +kernel, rfl, by decide +kernel, by decide +kernel⟩
theorem fn_law_ring_row (T : Txt P K mg w) : Fd P w K mg base "_law_ring_row" 1 ["way"] sp_law_ring_row :=
  Fd.of T.d_law_ring_row sc_law_ring_row (fun _ _ _ _ q => q.1) rd_law_ring_row (fun f cdv A outer s H EV B E rg hr => have nd := sc_law_ring_row.nd
    ds_cons (ds_set (i := 1) nd (de_dispL (.cons (show DE _ _ _ (dC (.v (kV (.inr "bi")))) from de_str) (show DE _ _ _ (dC (.t [.v (.int 2), .v (.int 0), .v (.int 1)])) from de_tup (da_cons (de_int) (da_cons (de_int) (da_cons (de_int) (da_nil))))) (.cons (show DE _ _ _ (dC (.v (kV (.inr "be")))) from de_str) (show DE _ _ _ (dC (.t [.v (.int 1), .v (.int 0), .v (.int 1)])) from de_tup (da_cons (de_int) (da_cons (de_int) (da_cons (de_int) (da_nil))))) (.cons (show DE _ _ _ (dC (.v (kV (.inr "bo")))) from de_str) (show DE _ _ _ (dC (.t [.v (.int 1), .v (.int 0), .v (.int 2)])) from de_tup (da_cons (de_int) (da_cons (de_int) (da_cons (de_int) (da_nil))))) (.cons (show DE _ _ _ (dC (.v (kV (.inr "ib")))) from de_str) (show DE _ _ _ (dC (.t [.v (.int 2), .v (.int 1), .v (.int 0)])) from de_tup (da_cons (de_int) (da_cons (de_int) (da_cons (de_int) (da_nil))))) (.cons (show DE _ _ _ (dC (.v (kV (.inr "ii")))) from de_str) (show DE _ _ _ (dC (.t [.v (.int 3), .v (.int 1), .v (.int 2)])) from de_tup (da_cons (de_int) (da_cons (de_int) (da_cons (de_int) (da_nil))))) (.cons (show DE _ _ _ (dC (.v (kV (.inr "II")))) from de_str) (show DE _ _ _ (dC (.t [.v (.int 3), .v (.int 2), .v (.int 1)])) from de_tup (da_cons (de_int) (da_cons (de_int) (da_cons (de_int) (da_nil))))) (.cons (show DE _ _ _ (dC (.v (kV (.inr "ie")))) from de_str) (show DE _ _ _ (dC (.t [.v (.int 2), .v (.int 1), .v (.int 2)])) from de_tup (da_cons (de_int) (da_cons (de_int) (da_cons (de_int) (da_nil))))) (.cons (show DE _ _ _ (dC (.v (kV (.inr "io")))) from de_str) (show DE _ _ _ (dC (.t [.v (.int 2), .v (.int 1), .v (.int 3)])) from de_tup (da_cons (de_int) (da_cons (de_int) (da_cons (de_int) (da_nil))))) (.cons (show DE _ _ _ (dC (.v (kV (.inr "eb")))) from de_str) (show DE _ _ _ (dC (.t [.v (.int 1), .v (.int 1), .v (.int 0)])) from de_tup (da_cons (de_int) (da_cons (de_int) (da_cons (de_int) (da_nil))))) (.cons (show DE _ _ _ (dC (.v (kV (.inr "ei")))) from de_str) (show DE _ _ _ (dC (.t [.v (.int 2), .v (.int 2), .v (.int 1)])) from de_tup (da_cons (de_int) (da_cons (de_int) (da_cons (de_int) (da_nil))))) (.cons (show DE _ _ _ (dC (.v (kV (.inr "eo")))) from de_str) (show DE _ _ _ (dC (.t [.v (.int 1), .v (.int 1), .v (.int 2)])) from de_tup (da_cons (de_int) (da_cons (de_int) (da_cons (de_int) (da_nil))))) (.cons (show DE _ _ _ (dC (.v (kV (.inr "ob")))) from de_str) (show DE _ _ _ (dC (.t [.v (.int 1), .v (.int 2), .v (.int 0)])) from de_tup (da_cons (de_int) (da_cons (de_int) (da_cons (de_int) (da_nil))))) (.cons (show DE _ _ _ (dC (.v (kV (.inr "oi")))) from de_str) (show DE _ _ _ (dC (.t [.v (.int 2), .v (.int 3), .v (.int 1)])) from de_tup (da_cons (de_int) (da_cons (de_int) (da_cons (de_int) (da_nil))))) (.cons (show DE _ _ _ (dC (.v (kV (.inr "oe")))) from de_str) (show DE _ _ _ (dC (.t [.v (.int 1), .v (.int 2), .v (.int 1)])) from de_tup (da_cons (de_int) (da_cons (de_int) (da_cons (de_int) (da_nil))))) (.cons (show DE _ _ _ (dC (.v (kV (.inr "oo")))) from de_str) (show DE _ _ _ (dC (.t [.v (.int 1), .v (.int 2), .v (.int 3)])) from de_tup (da_cons (de_int) (da_cons (de_int) (da_cons (de_int) (da_nil))))) (.cons (show DE _ _ _ (dC (.v (kV (.inr "OO")))) from de_str) (show DE _ _ _ (dC (.t [.v (.int 1), .v (.int 3), .v (.int 2)])) from de_tup (da_cons (de_int) (da_cons (de_int) (da_cons (de_int) (da_nil))))) (.nil)))))))))))))))))))
    (ds_one (ds_ret (de_it hr (de_var 1) (de_var 0))))) ok_law_ring_row
theorem sc_law_ring_way : FnScope ["first", "second", "row", "start", "end", "one", "other", "letters", "spot"] ["first", "second"] (defScope s_law_ring_way) := ⟨rfl, rfl, rfl, by decide +kernel, rfl, by decide +kernel, by decide +kernel⟩
theorem fn_law_ring_way (T : Txt P K mg w) : Fd P w K mg base "_law_ring_way" 1 ["first", "second"] sp_law_ring_way :=
  Fd.of T.d_law_ring_way sc_law_ring_way (fun _ _ _ _ q => q.1) rd_law_ring_way (fun f cdv A outer s H EV B E rg hr => have nd := sc_law_ring_way.nd
    ds_cons (ds_set (i := 2) nd (de_callB (ca_sortedA (by exact rg.calm)) T.n_sorted PyProof.Rows.boot_sorted (da_cons (de_lst (da_cons (de_it hr (de_var 0) (de_int)) (da_cons (de_it hr (de_var 0) (de_int)) (da_cons (de_it hr (de_var 1) (de_int)) (da_cons (de_it hr (de_var 1) (de_int)) (da_nil)))))) (da_nil))))
    (ds_cons (ds_set (i := 3) nd (de_bm PySem.F.plainAttrs_list PySem.F.slot_list_index PySem.F.type_list_index dm_index (de_var 2) (da_cons (de_it hr (de_var 0) (de_int)) (da_nil))))
    (ds_cons (ds_set (i := 4) nd (de_op do_mod (de_callTy ca_int T.n_int PyProof.Rows.boot_int (da_cons (de_op do_sub (de_bm PySem.F.plainAttrs_list PySem.F.slot_list_index PySem.F.type_list_index dm_index (de_var 2) (da_cons (de_it hr (de_var 0) (de_int)) (da_nil))) (de_var 3)) (da_nil))) (de_int)))
    (ds_cons (ds_set (i := 5) nd (de_op do_mod (de_callTy ca_int T.n_int PyProof.Rows.boot_int (da_cons (de_op do_sub (de_bm PySem.F.plainAttrs_list PySem.F.slot_list_index PySem.F.type_list_index dm_index (de_var 2) (da_cons (de_it hr (de_var 1) (de_int)) (da_nil))) (de_var 3)) (da_nil))) (de_int)))
    (ds_cons (ds_set (i := 6) nd (de_op do_mod (de_callTy ca_int T.n_int PyProof.Rows.boot_int (da_cons (de_op do_sub (de_bm PySem.F.plainAttrs_list PySem.F.slot_list_index PySem.F.type_list_index dm_index (de_var 2) (da_cons (de_it hr (de_var 1) (de_int)) (da_nil))) (de_var 3)) (da_nil))) (de_int)))
    (ds_cons (ds_set (i := 7) nd (de_str))
    (ds_cons (ds_for rg (di_any (de_lst (da_cons (de_var 5) (da_cons (de_var 6) (da_nil))))) (dg_name (i := 8) nd) (ds_one (ds_if (dt_cmp (do_eqA hr) (de_var 8) (de_int)) (ds_one (ds_set (i := 7) nd (de_op do_add (de_var 7) (de_str)))) (ds_one (ds_if (dt_cmp do_lt (de_var 8) (de_var 4)) (ds_one (ds_set (i := 7) nd (de_op do_add (de_var 7) (de_str)))) (ds_one (ds_if (dt_cmp (do_eqA hr) (de_var 8) (de_var 4)) (ds_one (ds_set (i := 7) nd (de_op do_add (de_var 7) (de_str)))) (ds_one (ds_set (i := 7) nd (de_op do_add (de_var 7) (de_str)))))))))))
    (ds_cons (ds_if (DW.dt (dw_and (dt_cmp (do_mem hr) (de_var 7) (de_lst (da_cons (de_str) (da_cons (de_str) (da_nil))))) (dw_and1 (dt_cmp do_lt (de_var 6) (de_var 5))))) (ds_one (ds_ret (de_bm0 PySem.F.plainAttrs_str PySem.F.slot_str_upper PySem.F.type_str_upper dm_upper (de_var 7)))) (ds_nil))
    (ds_one (ds_ret (de_var 7))))))))))) ok_law_ring_way
theorem sc_law_back : FnScope ["kind", "way", "line", "row", "one"] ["kind", "way"] (defScope s_law_back) := ⟨rfl, rfl, rfl, by decide +kernel, rfl, by decide +kernel, by decide +kernel⟩
theorem fn_law_back (T : Txt P K mg w) (C_law_ring_row : Fd P w K mg base "_law_ring_row" 1 ["way"] sp_law_ring_row) (C_law_ring_way : Fd P w K mg base "_law_ring_way" 1 ["first", "second"] sp_law_ring_way) : Fd P w K mg base "_law_back" 2 ["kind", "way"] sp_law_back :=
  Fd.of T.d_law_back sc_law_back (fun _ _ _ _ q => q.1) rd_law_back (fun f cdv A outer s H EV B E rg hr => have nd := sc_law_back.nd
    ds_cons (ds_if (dt_cmp (do_eqA hr) (de_var 0) (de_str)) (ds_cons (ds_set (i := 3) nd (de_callF C_law_ring_row hr rg (da_cons (de_var 1) (da_nil))))
    (ds_one (ds_ret (de_callF C_law_ring_way hr rg (da_cons (de_tup (da_cons (de_it hr (de_var 3) (de_int)) (da_cons (de_it hr (de_var 3) (de_int)) (da_nil)))) (da_cons (de_tup (da_cons (de_int) (da_cons (de_it hr (de_var 3) (de_int)) (da_nil)))) (da_nil))))))) (ds_nil))
    (ds_cons (ds_set (i := 2) nd (de_str))
    (ds_one (ds_ret (de_bm PySem.F.plainAttrs_str PySem.F.slot_str_join PySem.F.type_str_join dm_join (de_str) (da_cons (de_lc rg nd (di_any (de_var 1)) (blkOk_by (own := [("one", 4)]) (N := N_law_back) (sc := defScope s_law_back) (by decide +kernel)) (fun _ _ _ _ _ => pg_name (i := 4) nd rfl (Or.inl rfl)) gw_name (fun _ _ _ _ _ => dts_nil) (fun _ _ _ _ _ => de_it hr (de_var 2) (de_op do_sub (de_int) (de_bm PySem.F.plainAttrs_str PySem.F.slot_str_index PySem.F.type_str_index dm_sindex (de_var 2) (da_cons (de_var 4) (da_nil)))))) (da_nil))))))) ok_law_back
theorem sc_mirrored : FnScope ["kind", "way", "first", "second", "one"] ["kind", "way"] (defScope s_mirrored) := ⟨rfl, rfl, rfl, by decide +kernel, rfl, by decide +kernel, by decide +kernel⟩
theorem fn_mirrored (T : Txt P K mg w) (C_check_way : Fd P w K mg base "check_way" 3 ["kind", "word"] sp_check_way) (C_ring_sample : Fd P w K mg base "ring_sample" 1 ["way"] sp_ring_sample) (C_ring_way : Fd P w K mg base "ring_way" 2 ["first", "second"] sp_ring_way) : Fd P w K mg base "mirrored" 4 ["kind", "way"] sp_mirrored :=
  Fd.of T.d_mirrored sc_mirrored (fun _ _ _ _ q => q.1) rd_mirrored (fun f cdv A outer s H EV B E rg hr => have nd := sc_mirrored.nd
    ds_cons (ds_expr (de_callF C_check_way hr rg (da_cons (de_var 0) (da_cons (de_var 1) (da_nil)))))
    (ds_cons (ds_if (dt_cmp (do_eqA hr) (de_var 0) (de_str)) (ds_cons (ds_asg (de_callF C_ring_sample hr rg (da_cons (de_var 1) (da_nil))) (dg_tup rg.calm (dgs_cons (dg_name (i := 2) nd) (dgs_cons (dg_name (i := 3) nd) (dgs_nil)))))
    (ds_one (ds_ret (de_callF C_ring_way hr rg (da_cons (de_tup (da_cons (de_neg (de_it hr (de_var 2) (de_int))) (da_cons (de_neg (de_it hr (de_var 2) (de_int))) (da_nil)))) (da_cons (de_tup (da_cons (de_neg (de_it hr (de_var 3) (de_int))) (da_cons (de_neg (de_it hr (de_var 3) (de_int))) (da_nil)))) (da_nil))))))) (ds_nil))
    (ds_one (ds_ret (de_bm PySem.F.plainAttrs_str PySem.F.slot_str_join PySem.F.type_str_join dm_join (de_str) (da_cons (de_lc rg nd (di_any (de_var 1)) (blkOk_by (own := [("one", 4)]) (N := N_mirrored) (sc := defScope s_mirrored) (by decide +kernel)) (fun _ _ _ _ _ => pg_name (i := 4) nd rfl (Or.inl rfl)) gw_name (fun _ _ _ _ _ => dts_nil) (fun _ _ _ _ _ => de_kdc T.k_MIRRORED (de_var 4))) (da_nil))))))) ok_mirrored
theorem sc_mirrored_lot : FnScope ["kind", "lot", "way"] ["kind", "lot"] (defScope s_mirrored_lot) := ⟨rfl, rfl, rfl, by decide +kernel, rfl, by decide +kernel, by decide +kernel⟩
theorem fn_mirrored_lot (T : Txt P K mg w) (C_mirrored : Fd P w K mg base "mirrored" 4 ["kind", "way"] sp_mirrored) (C_ordered : Fd P w K mg base "ordered" 2 ["kind", "words"] sp_ordered) : Fd P w K mg base "mirrored_lot" 5 ["kind", "lot"] sp_mirrored_lot :=
  Fd.of T.d_mirrored_lot sc_mirrored_lot (fun _ _ _ _ q => q.1) rd_mirrored_lot (fun f cdv A outer s H EV B E rg hr => have nd := sc_mirrored_lot.nd
    ds_one (ds_ret (de_callF C_ordered hr rg (da_cons (de_var 0) (da_cons (de_lc rg nd (di_any (de_var 1)) (blkOk_by (own := [("way", 2)]) (N := N_mirrored_lot) (sc := defScope s_mirrored_lot) (by decide +kernel)) (fun _ _ _ _ _ => pg_name (i := 2) nd rfl (Or.inl rfl)) gw_name (fun _ _ _ _ _ => dts_nil) (fun _ _ _ _ _ => de_callF C_mirrored hr (Rg.none rg.calm PassesOwn.never) (da_cons (de_var 0) (da_cons (de_var 2) (da_nil))))) (da_nil)))))) ok_mirrored_lot
theorem sc_law_mirrored : FnScope ["kind", "way", "line", "row", "one"] ["kind", "way"] (defScope s_law_mirrored) := ⟨rfl, rfl, rfl, by decide +kernel, rfl, by decide +kernel, by decide +kernel⟩
theorem fn_law_mirrored (T : Txt P K mg w) (C_law_ring_row : Fd P w K mg base "_law_ring_row" 1 ["way"] sp_law_ring_row) (C_law_ring_way : Fd P w K mg base "_law_ring_way" 1 ["first", "second"] sp_law_ring_way) : Fd P w K mg base "_law_mirrored" 2 ["kind", "way"] sp_law_mirrored :=
  Fd.of T.d_law_mirrored sc_law_mirrored (fun _ _ _ _ q => q.1) rd_law_mirrored (fun f cdv A outer s H EV B E rg hr => have nd := sc_law_mirrored.nd
    ds_cons (ds_if (dt_cmp (do_eqA hr) (de_var 0) (de_str)) (ds_cons (ds_set (i := 3) nd (de_callF C_law_ring_row hr rg (da_cons (de_var 1) (da_nil))))
    (ds_one (ds_ret (de_callF C_law_ring_way hr rg (da_cons (de_tup (da_cons (de_neg (de_it hr (de_var 3) (de_int))) (da_cons (de_int) (da_nil)))) (da_cons (de_tup (da_cons (de_neg (de_it hr (de_var 3) (de_int))) (da_cons (de_neg (de_it hr (de_var 3) (de_int))) (da_nil)))) (da_nil))))))) (ds_nil))
    (ds_cons (ds_set (i := 2) nd (de_str))
    (ds_one (ds_ret (de_bm PySem.F.plainAttrs_str PySem.F.slot_str_join PySem.F.type_str_join dm_join (de_str) (da_cons (de_lc rg nd (di_any (de_var 1)) (blkOk_by (own := [("one", 4)]) (N := N_law_mirrored) (sc := defScope s_law_mirrored) (by decide +kernel)) (fun _ _ _ _ _ => pg_name (i := 4) nd rfl (Or.inl rfl)) gw_name (fun _ _ _ _ _ => dts_nil) (fun _ _ _ _ _ => de_it hr (de_str) (de_bm PySem.F.plainAttrs_str PySem.F.slot_str_index PySem.F.type_str_index dm_sindex (de_var 2) (da_cons (de_var 4) (da_nil))))) (da_nil))))))) ok_law_mirrored
theorem sc_law_spoilt : FnScope ["pool", "kind", "lot", "every", "row", "choice", "at", "strange"] ["pool", "kind", "lot"] (defScope s_law_spoilt) := ⟨rfl, rfl, rfl, by decide +kernel, rfl, by decide +kernel, by decide +kernel⟩
theorem fn_law_spoilt (T : Txt P K mg w) (C_law_ways : Fd P w K mg base "_law_ways" 1 ["kind"] sp_law_ways) (C_law_draw : Fd P w K mg base "_law_draw" 1 ["pool", "many"] sp_law_draw) : Fd P w K mg base "_law_spoilt" 2 ["pool", "kind", "lot"] sp_law_spoilt :=
  Fd.of T.d_law_spoilt sc_law_spoilt (fun _ _ _ _ q => q.1) rd_law_spoilt (fun f cdv A outer s H EV B E rg hr => have nd := sc_law_spoilt.nd
    ds_cons (ds_set (i := 3) nd (de_callF C_law_ways hr rg (da_cons (de_var 1) (da_nil))))
    (ds_cons (ds_set (i := 4) nd (de_callTy (ca_list rg.calm) T.n_list PyProof.Rows.boot_list (da_cons (de_var 2) (da_nil))))
    (ds_cons (ds_set (i := 5) nd (de_callF C_law_draw hr rg (da_cons (de_var 0) (da_cons (de_int) (da_nil)))))
    (ds_cons (ds_set (i := 6) nd (de_callF C_law_draw hr rg (da_cons (de_var 0) (da_cons (de_op do_add (de_callB ca_len T.n_len PySem.boot_len (da_cons (de_var 4) (da_nil))) (de_int)) (da_nil)))))
    (ds_cons (ds_if (dt_cmp (do_eqA hr) (de_var 5) (de_int)) (ds_one (ds_ret (de_var 4))) (ds_nil))
    (ds_cons (ds_if (dt_cmp (do_eqA hr) (de_var 5) (de_int)) (ds_cons (ds_set (i := 7) nd (de_it hr (de_lst (da_cons (de_str) (da_cons (de_str) (da_cons (de_int) (da_cons (de_non) (da_cons (de_bl) (da_cons (de_tup (da_cons (de_str) (da_nil))) (da_cons (de_lst (da_cons (de_str) (da_nil))) (da_cons (de_str) (da_cons (de_str) (da_cons (de_tup (da_nil)) (da_nil)))))))))))) (de_callF C_law_draw hr rg (da_cons (de_var 0) (da_cons (de_int) (da_nil))))))
    (ds_one (ds_ret (de_callTy ca_tuple T.n_tuple PyProof.Rows.boot_tuple (da_cons (de_op do_add (de_op do_add (de_sl (de_var 4) (do_none) (do_some (de_var 6))) (de_lst (da_cons (de_var 7) (da_nil)))) (de_sl (de_var 4) (do_some (de_var 6)) (do_none))) (da_nil)))))) (ds_nil))
    (ds_cons (ds_if (dt_cmp (do_eqA hr) (de_var 5) (de_int)) (ds_one (ds_ret (de_callTy ca_tuple T.n_tuple PyProof.Rows.boot_tuple (da_cons (de_op do_add (de_sl (de_var 4) (do_some (de_var 6)) (do_none)) (de_sl (de_var 4) (do_none) (do_some (de_var 6)))) (da_nil))))) (ds_nil))
    (ds_cons (ds_if (dt_cmp (do_eqA hr) (de_var 5) (de_int)) (ds_one (ds_ret (de_callTy ca_tuple T.n_tuple PyProof.Rows.boot_tuple (da_cons (de_op do_add (de_sl (de_var 4) (do_none) (do_some (de_var 6))) (de_sl (de_var 4) (do_some (de_callB (ca_max rg.calm hr) T.n_max PyProof.Rows.boot_max (da_cons (de_int) (da_cons (de_op do_sub (de_var 6) (de_int)) (da_nil))))) (do_none))) (da_nil))))) (ds_nil))
    (ds_cons (ds_if (dt_cmp (do_eqA hr) (de_var 5) (de_int)) (ds_one (ds_ret (de_bm PySem.F.plainAttrs_str PySem.F.slot_str_join PySem.F.type_str_join dm_join (de_str) (da_cons (de_var 4) (da_nil))))) (ds_nil))
    (ds_cons (ds_if (DW.dt (dw_or (dt_cmp (do_eqA hr) (de_var 5) (de_int)) (dw_or1 (dt_cmp (do_eqA hr) (de_var 5) (de_int))))) (ds_one (ds_ret (de_callTy ca_tuple T.n_tuple PyProof.Rows.boot_tuple (da_cons (de_op do_add (de_op do_add (de_sl (de_var 4) (do_none) (do_some (de_var 6))) (de_lst (da_cons (de_it hr (de_var 3) (de_callF C_law_draw hr rg (da_cons (de_var 0) (da_cons (de_callB ca_len T.n_len PySem.boot_len (da_cons (de_var 3) (da_nil))) (da_nil))))) (da_nil)))) (de_sl (de_var 4) (do_some (de_var 6)) (do_none))) (da_nil))))) (ds_nil))
    (ds_cons (ds_if (dt_cmp (do_eqA hr) (de_var 5) (de_int)) (ds_one (ds_ret (de_it hr (de_lst (da_cons (de_non) (da_cons (de_int) (da_cons (de_str) (da_cons (de_lst (da_nil)) (da_cons (de_tup (da_cons (de_str) (da_cons (de_str) (da_nil)))) (da_cons (de_tup (da_cons (de_tup (da_cons (de_str) (da_nil))) (da_cons (de_tup (da_nil)) (da_nil)))) (da_nil)))))))) (de_callF C_law_draw hr rg (da_cons (de_var 0) (da_cons (de_int) (da_nil))))))) (ds_nil))
    (ds_one (ds_ret (de_callTy ca_tuple T.n_tuple PyProof.Rows.boot_tuple (da_cons (de_op do_add (de_sl (de_var 4) (do_none) (do_some (de_var 6))) (de_sl (de_var 4) (do_some (de_op do_add (de_var 6) (de_int))) (do_none))) (da_nil)))))))))))))))) ok_law_spoilt
theorem sc_has_doubles : FnScope ["values", "value"] ["values"] (defScope s_has_doubles) := ⟨rfl, rfl, rfl, by decide +kernel, rfl, by decide +kernel, by decide +kernel⟩
theorem fn_has_doubles (T : Txt P K mg w) : Fd P w K mg base "has_doubles" 1 ["values"] sp_has_doubles :=
  Fd.of T.d_has_doubles sc_has_doubles (fun _ _ _ _ q => q.1) rd_has_doubles (fun f cdv A outer s H EV B E rg hr => have nd := sc_has_doubles.nd
    ds_one (ds_ret (de_cmp do_lt (de_callB ca_len T.n_len PySem.boot_len (da_cons (de_dc rg nd (di_any (de_var 0)) (blkOk_by (own := [("value", 1)]) (N := N_has_doubles) (sc := defScope s_has_doubles) (by decide +kernel)) (fun _ _ _ _ _ => pg_name (i := 1) nd rfl (Or.inl rfl)) gw_name (fun _ _ _ _ _ => dts_nil) (fun _ _ _ _ _ => de_var 1) (fun _ _ _ _ _ => de_bl)) (da_nil))) (de_callB ca_len T.n_len PySem.boot_len (da_cons (de_var 0) (da_nil)))))) ok_has_doubles
theorem sc_is_lot : FnScope ["kind", "value", "word"] ["kind", "value"] (defScope s_is_lot) := ⟨rfl, rfl, rfl, by decide +kernel, rfl, by decide +kernel, by decide +kernel⟩
theorem fn_is_lot (T : Txt P K mg w) (C_is_way : Fd P w K mg base "is_way" 1 ["kind", "word"] sp_is_way) (C_has_doubles : Fd P w K mg base "has_doubles" 1 ["values"] sp_has_doubles) (C_ordered : Fd P w K mg base "ordered" 2 ["kind", "words"] sp_ordered) : Fd P w K mg base "is_lot" 3 ["kind", "value"] sp_is_lot :=
  Fd.of T.d_is_lot sc_is_lot (fun _ _ _ _ q => q.1) rd_is_lot (fun f cdv A outer s H EV B E rg hr => have nd := sc_is_lot.nd
    ds_cons (ds_if (DW.dt (dw_or (dt_not (dt_val (de_callB ca_isi T.n_isinstance PyProof.Rows.boot_isinstance (da_cons (de_var 1) (da_cons (de_type T.n_tuple PyProof.Rows.boot_tuple) (da_nil)))))) (dw_or1 (dt_cmp do_gt (de_callB ca_len T.n_len PySem.boot_len (da_cons (de_lc rg nd (di_any (de_var 1)) (blkOk_by (own := [("word", 2)]) (N := N_is_lot) (sc := defScope s_is_lot) (by decide +kernel)) (fun _ _ _ _ _ => pg_name (i := 2) nd rfl (Or.inl rfl)) gw_name (fun _ _ _ _ _ => dts_one (dt_not (dt_val (de_callB ca_isi T.n_isinstance PyProof.Rows.boot_isinstance (da_cons (de_var 2) (da_cons (de_type T.n_str PyProof.Rows.boot_str) (da_nil))))))) (fun _ _ _ _ _ => de_var 2)) (da_nil))) (de_int))))) (ds_one (ds_ret (de_bl))) (ds_nil))
    (ds_cons (ds_if (DW.dt (dw_or (dt_cmp do_gt (de_callB ca_len T.n_len PySem.boot_len (da_cons (de_lc rg nd (di_any (de_var 1)) (blkOk_by (own := [("word", 2)]) (N := N_is_lot) (sc := defScope s_is_lot) (by decide +kernel)) (fun _ _ _ _ _ => pg_name (i := 2) nd rfl (Or.inl rfl)) gw_name (fun _ _ _ _ _ => dts_one (dt_not (dt_val (de_callF C_is_way hr (Rg.none rg.calm PassesOwn.never) (da_cons (de_var 0) (da_cons (de_var 2) (da_nil))))))) (fun _ _ _ _ _ => de_var 2)) (da_nil))) (de_int)) (dw_or1 (dt_val (de_callF C_has_doubles hr rg (da_cons (de_var 1) (da_nil))))))) (ds_one (ds_ret (de_bl))) (ds_nil))
    (ds_one (ds_ret (de_cmp (do_eqA hr) (de_var 1) (de_callF C_ordered hr rg (da_cons (de_var 0) (da_cons (de_var 1) (da_nil))))))))) ok_is_lot
theorem sc_law_is_lot : FnScope ["kind", "value", "every", "last", "word"] ["kind", "value"] (defScope s_law_is_lot) := ⟨rfl, rfl, rfl, by decide +kernel, rfl, by decide +kernel, by decide +kernel⟩
theorem fn_law_is_lot (T : Txt P K mg w) (C_law_ways : Fd P w K mg base "_law_ways" 1 ["kind"] sp_law_ways) : Fd P w K mg base "_law_is_lot" 2 ["kind", "value"] sp_law_is_lot :=
  Fd.of T.d_law_is_lot sc_law_is_lot (fun _ _ _ _ q => q.1) rd_law_is_lot (fun f cdv A outer s H EV B E rg hr => have nd := sc_law_is_lot.nd
    ds_cons (ds_if (dt_not (dt_val (de_callB ca_isi T.n_isinstance PyProof.Rows.boot_isinstance (da_cons (de_var 1) (da_cons (de_type T.n_tuple PyProof.Rows.boot_tuple) (da_nil)))))) (ds_one (ds_ret (de_bl))) (ds_nil))
    (ds_cons (ds_set (i := 2) nd (de_callF C_law_ways hr rg (da_cons (de_var 0) (da_nil))))
    (ds_cons (ds_set (i := 3) nd (de_neg (de_int)))
    (ds_cons (ds_for rg (di_any (de_var 1)) (dg_name (i := 4) nd) (ds_cons (ds_if (DW.dt (dw_or (dt_not (dt_val (de_callB ca_isi T.n_isinstance PyProof.Rows.boot_isinstance (da_cons (de_var 4) (da_cons (de_type T.n_str PyProof.Rows.boot_str) (da_nil)))))) (dw_or (dt_cmp (do_notmem hr) (de_var 4) (de_var 2)) (dw_or1 (dt_cmp do_le (de_bm PySem.F.plainAttrs_list PySem.F.slot_list_index PySem.F.type_list_index dm_index (de_var 2) (da_cons (de_var 4) (da_nil))) (de_var 3)))))) (ds_one (ds_ret (de_bl))) (ds_nil))
    (ds_one (ds_set (i := 3) nd (de_bm PySem.F.plainAttrs_list PySem.F.slot_list_index PySem.F.type_list_index dm_index (de_var 2) (da_cons (de_var 4) (da_nil)))))))
    (ds_one (ds_ret (de_bl))))))) ok_law_is_lot
theorem sc_law : FnScope ["script", "pool", "kind", "first", "second", "inner", "rest", "turn", "value", "way"] ["script"] (defScope s_law) := ⟨rfl, rfl, rfl, by decide +kernel, rfl, by decide +kernel, by decide +kernel⟩
theorem fn_law {f : Addr} {fd : FuncData} (T : Txt P K mg w) (F : Fun K "law" "law" s_law f fd) (C_law_pool : Fd P w K mg base "_law_pool" 1 ["script"] sp_law_pool) (C_law_draw : Fd P w K mg base "_law_draw" 1 ["pool", "many"] sp_law_draw) (C_law_words_hold : Fd P w K mg base "_law_words_hold" 6 ["pool", "kind"] sp_law_words_hold) (C_law_drawn_lot : Fd P w K mg base "_law_drawn_lot" 3 ["pool", "kind", "most"] sp_law_drawn_lot) (C_joined_lots : Fd P w K mg base "joined_lots" 3 ["kind", "first", "second"] sp_joined_lots) (C_law_lot : Fd P w K mg base "_law_lot" 2 ["kind", "words"] sp_law_lot) (C_law_same : Fd P w K mg base "_law_same" 3 ["actual", "due"] (sp_law_same 3)) (C_common : Fd P w K mg base "common" 1 ["kind", "first", "second"] sp_common) (C_law_ways : Fd P w K mg base "_law_ways" 1 ["kind"] sp_law_ways) (C_other_ways : Fd P w K mg base "other_ways" 4 ["kind", "lot"] sp_other_ways) (C_back_lot : Fd P w K mg base "back_lot" 5 ["kind", "lot"] sp_back_lot) (C_law_back : Fd P w K mg base "_law_back" 2 ["kind", "way"] sp_law_back) (C_mirrored_lot : Fd P w K mg base "mirrored_lot" 5 ["kind", "lot"] sp_mirrored_lot) (C_law_mirrored : Fd P w K mg base "_law_mirrored" 2 ["kind", "way"] sp_law_mirrored) (C_law_spoilt : Fd P w K mg base "_law_spoilt" 2 ["pool", "kind", "lot"] sp_law_spoilt) (C_is_lot : Fd P w K mg base "is_lot" 3 ["kind", "value"] sp_is_lot) (C_law_is_lot : Fd P w K mg base "_law_is_lot" 2 ["kind", "value"] sp_law_is_lot) : FnD P w K mg base 7 f fd ["script"] lawSp :=
  fn_d F sc_law (fun _ _ _ _ q => law_len q) rd_law (fun cdv A outer s H EV B E rg hr => have nd := sc_law.nd
    ds_cons (ds_set (i := 1) nd (de_callF C_law_pool hr rg (da_cons (de_var 0) (da_nil))))
    (ds_cons (ds_set (i := 2) nd (de_it hr (de_lst (da_cons (de_str) (da_cons (de_str) (da_cons (de_str) (da_nil))))) (de_callF C_law_draw hr rg (da_cons (de_var 1) (da_cons (de_int) (da_nil))))))
    (ds_cons (ds_if (dt_not (dt_val (de_callF C_law_words_hold hr rg (da_cons (de_var 1) (da_cons (de_var 2) (da_nil)))))) (ds_one (ds_ret (de_bl))) (ds_nil))
    (ds_cons (ds_set (i := 3) nd (de_callF C_law_drawn_lot hr rg (da_cons (de_var 1) (da_cons (de_var 2) (da_cons (de_int) (da_nil))))))
    (ds_cons (ds_set (i := 4) nd (de_callF C_law_drawn_lot hr rg (da_cons (de_var 1) (da_cons (de_var 2) (da_cons (de_int) (da_nil))))))
    (ds_cons (ds_if (dt_not (dt_val (de_callF C_law_same hr rg (da_cons (de_callF C_joined_lots hr rg (da_cons (de_var 2) (da_cons (de_var 3) (da_cons (de_var 4) (da_nil))))) (da_cons (de_callF C_law_lot hr rg (da_cons (de_var 2) (da_cons (de_op do_add (de_callTy (ca_list rg.calm) T.n_list PyProof.Rows.boot_list (da_cons (de_var 3) (da_nil))) (de_callTy (ca_list rg.calm) T.n_list PyProof.Rows.boot_list (da_cons (de_var 4) (da_nil)))) (da_nil)))) (da_nil)))))) (ds_one (ds_ret (de_bl))) (ds_nil))
    (ds_cons (ds_setLc (i := 5) rg nd rfl rfl (sw_true rfl rfl rfl (by decide +kernel)) (di_any (de_var 3)) (blkOk_by (own := [("way", 9)]) (N := N_law) (sc := defScope s_law) (by decide +kernel)) (fun _ _ _ _ _ => pg_name (i := 9) nd rfl (Or.inl rfl)) gw_name (fun _ _ _ _ _ => dts_one (dt_cmp (do_mem hr) (de_var 9) (de_var 4))) (fun _ _ _ _ _ => de_var 9))
    (ds_cons (ds_if (dt_not (dt_val (de_callF C_law_same hr rg (da_cons (de_callF C_common hr rg (da_cons (de_var 2) (da_cons (de_var 3) (da_cons (de_var 4) (da_nil))))) (da_cons (de_callF C_law_lot hr rg (da_cons (de_var 2) (da_cons (de_var 5) (da_nil)))) (da_nil)))))) (ds_one (ds_ret (de_bl))) (ds_nil))
    (ds_cons (ds_setLc (i := 6) rg nd rfl rfl (sw_true rfl rfl rfl (by decide +kernel)) (di_any (de_callF C_law_ways hr rg (da_cons (de_var 2) (da_nil)))) (blkOk_by (own := [("way", 9)]) (N := N_law) (sc := defScope s_law) (by decide +kernel)) (fun _ _ _ _ _ => pg_name (i := 9) nd rfl (Or.inl rfl)) gw_name (fun _ _ _ _ _ => dts_one (dt_cmp (do_notmem hr) (de_var 9) (de_var 3))) (fun _ _ _ _ _ => de_var 9))
    (ds_cons (ds_if (dt_not (dt_val (de_callF C_law_same hr rg (da_cons (de_callF C_other_ways hr rg (da_cons (de_var 2) (da_cons (de_var 3) (da_nil)))) (da_cons (de_callTy ca_tuple T.n_tuple PyProof.Rows.boot_tuple (da_cons (de_var 6) (da_nil))) (da_nil)))))) (ds_one (ds_ret (de_bl))) (ds_nil))
    (ds_cons (ds_if (dt_not (dt_val (de_callF C_law_same hr rg (da_cons (de_callF C_back_lot hr rg (da_cons (de_var 2) (da_cons (de_var 3) (da_nil)))) (da_cons (de_callF C_law_lot hr rg (da_cons (de_var 2) (da_cons (de_lc rg nd (di_any (de_var 3)) (blkOk_by (own := [("way", 9)]) (N := N_law) (sc := defScope s_law) (by decide +kernel)) (fun _ _ _ _ _ => pg_name (i := 9) nd rfl (Or.inl rfl)) gw_name (fun _ _ _ _ _ => dts_nil) (fun _ _ _ _ _ => de_callF C_law_back hr (Rg.none rg.calm PassesOwn.never) (da_cons (de_var 2) (da_cons (de_var 9) (da_nil))))) (da_nil)))) (da_nil)))))) (ds_one (ds_ret (de_bl))) (ds_nil))
    (ds_cons (ds_if (dt_not (dt_val (de_callF C_law_same hr rg (da_cons (de_callF C_mirrored_lot hr rg (da_cons (de_var 2) (da_cons (de_var 4) (da_nil)))) (da_cons (de_callF C_law_lot hr rg (da_cons (de_var 2) (da_cons (de_lc rg nd (di_any (de_var 4)) (blkOk_by (own := [("way", 9)]) (N := N_law) (sc := defScope s_law) (by decide +kernel)) (fun _ _ _ _ _ => pg_name (i := 9) nd rfl (Or.inl rfl)) gw_name (fun _ _ _ _ _ => dts_nil) (fun _ _ _ _ _ => de_callF C_law_mirrored hr (Rg.none rg.calm PassesOwn.never) (da_cons (de_var 2) (da_cons (de_var 9) (da_nil))))) (da_nil)))) (da_nil)))))) (ds_one (ds_ret (de_bl))) (ds_nil))
    (ds_cons (ds_for rg (di_range1 T.n_range (da_cons (de_int) (da_nil))) (dg_name (i := 7) nd) (ds_cons (ds_set (i := 8) nd (de_callF C_law_spoilt hr rg (da_cons (de_var 1) (da_cons (de_var 2) (da_cons (de_it hr (de_lst (da_cons (de_var 3) (da_cons (de_var 4) (da_cons (de_callF C_joined_lots hr rg (da_cons (de_var 2) (da_cons (de_var 3) (da_cons (de_var 4) (da_nil))))) (da_nil))))) (de_callF C_law_draw hr rg (da_cons (de_var 1) (da_cons (de_int) (da_nil))))) (da_nil))))))
    (ds_one (ds_if (dt_not (dt_val (de_callF C_law_same hr rg (da_cons (de_callF C_is_lot hr rg (da_cons (de_var 2) (da_cons (de_var 8) (da_nil)))) (da_cons (de_callF C_law_is_lot hr rg (da_cons (de_var 2) (da_cons (de_var 8) (da_nil)))) (da_nil)))))) (ds_one (ds_ret (de_bl))) (ds_nil)))))
    (ds_one (ds_ret (de_bl)))))))))))))))) ok_law
theorem all_fn {f : Addr} {fd : FuncData} (T : Txt P K mg w) (F : Fun K "law" "law" s_law f fd) : FnD P w K mg base 7 f fd ["script"] lawSp :=
  have C_law_pool := fn_law_pool (P := P) (base := base) T
  have C_law_draw := fn_law_draw (P := P) (base := base) T
  have C_law_ways := fn_law_ways (P := P) (base := base) T
  have C_law_lot := fn_law_lot (P := P) (base := base) T C_law_ways
  have C_is_way := fn_is_way (P := P) (base := base) T
  have C_check_way := fn_check_way (P := P) (base := base) T C_is_way
  have C_place_of := fn_place_of (P := P) (base := base) T
  have C_ordered := fn_ordered (P := P) (base := base) T C_place_of
  have C_lot_of := fn_lot_of (P := P) (base := base) T C_check_way C_ordered
  have C_law_told := fn_law_told (P := P) (base := base) T C_lot_of
  have C_law_same : Fd P w K mg base "_law_same" 0 ["actual", "due"] (sp_law_same 0) := (Fd.never T.d_law_same).imp (by decide) (fun _ _ _ _ q => (sp0_law_same q).elim)
  have C_law_same := fn_law_same (P := P) (base := base) T 0 0 (by decide) C_law_same
  have C_law_same := fn_law_same (P := P) (base := base) T 1 1 (by decide) C_law_same
  have C_law_same := fn_law_same (P := P) (base := base) T 2 2 (by decide) C_law_same
  have C_law_words_hold := fn_law_words_hold (P := P) (base := base) T C_law_ways C_law_draw C_law_lot C_law_told C_law_same
  have C_law_drawn_lot := fn_law_drawn_lot (P := P) (base := base) T C_law_ways C_law_draw C_law_lot
  have C_joined_lots := fn_joined_lots (P := P) (base := base) T C_ordered
  have C_common := fn_common (P := P) (base := base) T
  have C_ways := fn_ways (P := P) (base := base) T
  have C_other_ways := fn_other_ways (P := P) (base := base) T C_ways
  have C_ring_sample := fn_ring_sample (P := P) (base := base) T
  have C_turned := fn_turned (P := P) (base := base) T
  have C_place := fn_place (P := P) (base := base) T
  have C_ring_way := fn_ring_way (P := P) (base := base) T C_turned C_place
  have C_back := fn_back (P := P) (base := base) T C_check_way C_ring_sample C_ring_way
  have C_back_lot := fn_back_lot (P := P) (base := base) T C_back C_ordered
  have C_law_ring_row := fn_law_ring_row (P := P) (base := base) T
  have C_law_ring_way := fn_law_ring_way (P := P) (base := base) T
  have C_law_back := fn_law_back (P := P) (base := base) T C_law_ring_row C_law_ring_way
  have C_mirrored := fn_mirrored (P := P) (base := base) T C_check_way C_ring_sample C_ring_way
  have C_mirrored_lot := fn_mirrored_lot (P := P) (base := base) T C_mirrored C_ordered
  have C_law_mirrored := fn_law_mirrored (P := P) (base := base) T C_law_ring_row C_law_ring_way
  have C_law_spoilt := fn_law_spoilt (P := P) (base := base) T C_law_ways C_law_draw
  have C_has_doubles := fn_has_doubles (P := P) (base := base) T
  have C_is_lot := fn_is_lot (P := P) (base := base) T C_is_way C_has_doubles C_ordered
  have C_law_is_lot := fn_law_is_lot (P := P) (base := base) T C_law_ways
  fn_law T F C_law_pool C_law_draw C_law_words_hold C_law_drawn_lot C_joined_lots C_law_lot C_law_same C_common C_law_ways C_other_ways C_back_lot C_law_back C_mirrored_lot C_law_mirrored C_law_spoilt C_is_lot C_law_is_lot
end
theorem all_mk {l : PySem.W.OpenLaw} {w : World} {K : PySem.W.Frag} {h : Heap} {mg : Str → Option Value} {fa : Addr} (X : K.In h) (G : h.Ns mainGlobals mg) (hfa : mg "law" = some (.ref fa))
    {t17 : Tok}
    {a19 : Addr} {is21 : Array Value} {n22 : Nat} {sl23 : Array (Option Value)}
    {t26 : Tok}
    {t27 : Tok}
    {t28 : Tok}
    {t29 : Tok}
    {t30 : Tok}
    {t31 : Tok}
    {t32 : Tok}
    {t33 : Tok}
    {t34 : Tok}
    {t35 : Tok}
    {t36 : Tok}
    {t37 : Tok}
    {t38 : Tok}
    {t39 : Tok}
    {t40 : Tok}
    {t41 : Tok}
    {a44 : Addr} {od45 : Option Addr} {is46 : Array Value} {n47 : Nat} {sl48 : Array (Option Value)}
    {t51 : Tok}
    {t52 : Tok}
    {t53 : Tok}
    {a55 : Addr} {es56 : Array DictEntry} {n57 : Nat}
    {t62 : Tok}
    {t64 : Tok}
    {t66 : Tok}
    {t68 : Tok}
    {t70 : Tok}
    {t72 : Tok}
    {t74 : Tok}
    {t76 : Tok}
    {t78 : Tok}
    {t80 : Tok}
    {t82 : Tok}
    {t84 : Tok}
    {t86 : Tok}
    {a87 : Addr} {es88 : Array DictEntry} {n89 : Nat}
    {t94 : Tok}
    {t96 : Tok}
    {t98 : Tok}
    {t100 : Tok}
    {t102 : Tok}
    {t104 : Tok}
    {t106 : Tok}
    {t108 : Tok}
    {t110 : Tok}
    {t112 : Tok}
    {t114 : Tok}
    {t116 : Tok}
    {t118 : Tok}
    {f119 : Addr} {od120 an121 : Option Addr} {sl122 : Array (Option Value)} {v123 v124 v125 v126 v127 v128 : Value}
    {f133 : Addr} {od134 an135 : Option Addr} {sl136 : Array (Option Value)} {v137 v138 v139 v140 v141 v142 : Value}
    {f147 : Addr} {od148 an149 : Option Addr} {sl150 : Array (Option Value)} {v151 v152 v153 v154 v155 v156 : Value}
    {f161 : Addr} {od162 an163 : Option Addr} {sl164 : Array (Option Value)} {v165 v166 v167 v168 v169 v170 : Value}
    {f175 : Addr} {od176 an177 : Option Addr} {sl178 : Array (Option Value)} {v179 v180 v181 v182 v183 v184 : Value}
    {f189 : Addr} {od190 an191 : Option Addr} {sl192 : Array (Option Value)} {v193 v194 v195 v196 v197 v198 : Value}
    {f203 : Addr} {od204 an205 : Option Addr} {sl206 : Array (Option Value)} {v207 v208 v209 v210 v211 v212 : Value}
    {f217 : Addr} {od218 an219 : Option Addr} {sl220 : Array (Option Value)} {v221 v222 v223 v224 v225 v226 : Value}
    {f231 : Addr} {od232 an233 : Option Addr} {sl234 : Array (Option Value)} {v235 v236 v237 v238 v239 v240 : Value}
    {f245 : Addr} {od246 an247 : Option Addr} {sl248 : Array (Option Value)} {v249 v250 v251 v252 v253 v254 : Value}
    {f259 : Addr} {od260 an261 : Option Addr} {sl262 : Array (Option Value)} {v263 v264 v265 v266 v267 v268 : Value}
    {f273 : Addr} {od274 an275 : Option Addr} {sl276 : Array (Option Value)} {v277 v278 v279 v280 v281 v282 : Value}
    {f287 : Addr} {od288 an289 : Option Addr} {sl290 : Array (Option Value)} {v291 v292 v293 v294 v295 v296 : Value}
    {f301 : Addr} {od302 an303 : Option Addr} {sl304 : Array (Option Value)} {v305 v306 v307 v308 v309 v310 : Value}
    {f315 : Addr} {od316 an317 : Option Addr} {sl318 : Array (Option Value)} {v319 v320 v321 v322 v323 v324 : Value}
    {f329 : Addr} {od330 an331 : Option Addr} {sl332 : Array (Option Value)} {v333 v334 v335 v336 v337 v338 : Value}
    {f343 : Addr} {od344 an345 : Option Addr} {sl346 : Array (Option Value)} {v347 v348 v349 v350 v351 v352 : Value}
    {f357 : Addr} {od358 an359 : Option Addr} {sl360 : Array (Option Value)} {v361 v362 v363 v364 v365 v366 : Value}
    {f371 : Addr} {od372 an373 : Option Addr} {sl374 : Array (Option Value)} {v375 v376 v377 v378 v379 v380 : Value}
    {f385 : Addr} {od386 an387 : Option Addr} {sl388 : Array (Option Value)} {v389 v390 v391 v392 v393 v394 : Value}
    {f399 : Addr} {od400 an401 : Option Addr} {sl402 : Array (Option Value)} {v403 v404 v405 v406 v407 v408 : Value}
    {f413 : Addr} {od414 an415 : Option Addr} {sl416 : Array (Option Value)} {v417 v418 v419 v420 v421 v422 : Value}
    {f427 : Addr} {od428 an429 : Option Addr} {sl430 : Array (Option Value)} {v431 v432 v433 v434 v435 v436 : Value}
    {f441 : Addr} {od442 an443 : Option Addr} {sl444 : Array (Option Value)} {v445 v446 v447 v448 v449 v450 : Value}
    {f455 : Addr} {od456 an457 : Option Addr} {sl458 : Array (Option Value)} {v459 v460 v461 v462 v463 v464 : Value}
    {f469 : Addr} {od470 an471 : Option Addr} {sl472 : Array (Option Value)} {v473 v474 v475 v476 v477 v478 : Value}
    {f483 : Addr} {od484 an485 : Option Addr} {sl486 : Array (Option Value)} {v487 v488 v489 v490 v491 v492 : Value}
    {f497 : Addr} {od498 an499 : Option Addr} {sl500 : Array (Option Value)} {v501 v502 v503 v504 v505 v506 : Value}
    {f511 : Addr} {od512 an513 : Option Addr} {sl514 : Array (Option Value)} {v515 v516 v517 v518 v519 v520 : Value}
    {f525 : Addr} {od526 an527 : Option Addr} {sl528 : Array (Option Value)} {v529 v530 v531 v532 v533 v534 : Value}
    {f539 : Addr} {od540 an541 : Option Addr} {sl542 : Array (Option Value)} {v543 v544 v545 v546 v547 v548 : Value}
    {f553 : Addr} {od554 an555 : Option Addr} {sl556 : Array (Option Value)} {v557 v558 v559 v560 v561 v562 : Value}
    {f567 : Addr} {od568 an569 : Option Addr} {sl570 : Array (Option Value)} {v571 v572 v573 v574 v575 v576 : Value}
    {f581 : Addr} {od582 an583 : Option Addr} {sl584 : Array (Option Value)} {v585 v586 v587 v588 v589 v590 : Value}
    (z1 : PySem.W.nsIn K mainGlobals "int" = some none)
    (z2 : PySem.W.nsIn K mainGlobals "len" = some none)
    (z3 : PySem.W.nsIn K mainGlobals "list" = some none)
    (z4 : PySem.W.nsIn K mainGlobals "tuple" = some none)
    (z5 : PySem.W.nsIn K mainGlobals "sorted" = some none)
    (z6 : PySem.W.nsIn K mainGlobals "isinstance" = some none)
    (z7 : PySem.W.nsIn K mainGlobals "range" = some none)
    (z8 : PySem.W.nsIn K mainGlobals "bool" = some none)
    (z9 : PySem.W.nsIn K mainGlobals "str" = some none)
    (z10 : PySem.W.nsIn K mainGlobals "max" = some none)
    (z11 : PySem.W.nsIn K mainGlobals "min" = some none)
    (x12 : ExD l.prog K mg "UnknownKind" ["kind"])
    (x13 : ExD l.prog K mg "BadWay" ["way"])
    (x14 : ErT K mg (tabOf erL) erOwn erFt (erL.map (·.1)))
    (c16 : PySem.W.nsIn K mainGlobals "LINE" = some (some (.str "amoEWBsbweOMA" t17)))
    (c18 : PySem.W.nsIn K mainGlobals "RING" = some (some (.ref a19)))
    (l24 : K.lookup a19 = some ⟨.type "tuple", none, .seq is21 n22, sl23⟩)
    (s25 : is21.size ≤ sizeLine)
    (e42 : is21.toList = [(.str "bi" t26), (.str "be" t27), (.str "bo" t28), (.str "ib" t29), (.str "ii" t30), (.str "II" t31), (.str "ie" t32), (.str "io" t33), (.str "eb" t34), (.str "ei" t35), (.str "eo" t36), (.str "ob" t37), (.str "oi" t38), (.str "oe" t39), (.str "oo" t40), (.str "OO" t41)])
    (c43 : PySem.W.nsIn K mainGlobals "KINDS" = some (some (.ref a44)))
    (l49 : K.lookup a44 = some ⟨.type "tuple", od45, .seq is46 n47, sl48⟩)
    (s50 : is46.size ≤ sizeLine)
    (e54 : is46.toList = [(.str "line" t51), (.str "ring" t52), (.str "box" t53)])
    (c58 : PySem.W.nsIn K mainGlobals "BACK" = some (some (.ref a55)))
    (l59 : K.lookup a55 = some ⟨.type "dict", none, .dict es56 n57, #[]⟩)
    (q60 : PySem.W.KeysLit w.params es56.toList)
    (e61 : PySem.W.nsIn K a55 "a" = some (some (.str "A" t62)))
    (e63 : PySem.W.nsIn K a55 "m" = some (some (.str "M" t64)))
    (e65 : PySem.W.nsIn K a55 "o" = some (some (.str "O" t66)))
    (e67 : PySem.W.nsIn K a55 "E" = some (some (.str "e" t68)))
    (e69 : PySem.W.nsIn K a55 "W" = some (some (.str "w" t70)))
    (e71 : PySem.W.nsIn K a55 "B" = some (some (.str "b" t72)))
    (e73 : PySem.W.nsIn K a55 "s" = some (some (.str "s" t74)))
    (e75 : PySem.W.nsIn K a55 "b" = some (some (.str "B" t76)))
    (e77 : PySem.W.nsIn K a55 "w" = some (some (.str "W" t78)))
    (e79 : PySem.W.nsIn K a55 "e" = some (some (.str "E" t80)))
    (e81 : PySem.W.nsIn K a55 "O" = some (some (.str "o" t82)))
    (e83 : PySem.W.nsIn K a55 "M" = some (some (.str "m" t84)))
    (e85 : PySem.W.nsIn K a55 "A" = some (some (.str "a" t86)))
    (c90 : PySem.W.nsIn K mainGlobals "MIRRORED" = some (some (.ref a87)))
    (l91 : K.lookup a87 = some ⟨.type "dict", none, .dict es88 n89, #[]⟩)
    (q92 : PySem.W.KeysLit w.params es88.toList)
    (e93 : PySem.W.nsIn K a87 "a" = some (some (.str "A" t94)))
    (e95 : PySem.W.nsIn K a87 "m" = some (some (.str "M" t96)))
    (e97 : PySem.W.nsIn K a87 "o" = some (some (.str "O" t98)))
    (e99 : PySem.W.nsIn K a87 "E" = some (some (.str "B" t100)))
    (e101 : PySem.W.nsIn K a87 "W" = some (some (.str "W" t102)))
    (e103 : PySem.W.nsIn K a87 "B" = some (some (.str "E" t104)))
    (e105 : PySem.W.nsIn K a87 "s" = some (some (.str "s" t106)))
    (e107 : PySem.W.nsIn K a87 "b" = some (some (.str "e" t108)))
    (e109 : PySem.W.nsIn K a87 "w" = some (some (.str "w" t110)))
    (e111 : PySem.W.nsIn K a87 "e" = some (some (.str "b" t112)))
    (e113 : PySem.W.nsIn K a87 "O" = some (some (.str "o" t114)))
    (e115 : PySem.W.nsIn K a87 "M" = some (some (.str "m" t116)))
    (e117 : PySem.W.nsIn K a87 "A" = some (some (.str "a" t118)))
    (h129 : PySem.W.nsIn K mainGlobals "_law_pool" = some (some (.ref f119)))
    (l130 : K.lookup f119 = some ⟨v123, od120, .func (PySem.W.fnOf "_law_pool" "_law_pool" (defArgs s_law_pool) (defBody s_law_pool) (defScope s_law_pool) .none v124 v125 v126 an121 v127 v128), sl122⟩)
    (c131 : PySem.W.codeIn K v127 "_law_pool" = true)
    (k132 : PySem.W.keepIn K (.ref f119) = true)
    (h143 : PySem.W.nsIn K mainGlobals "_law_draw" = some (some (.ref f133)))
    (l144 : K.lookup f133 = some ⟨v137, od134, .func (PySem.W.fnOf "_law_draw" "_law_draw" (defArgs s_law_draw) (defBody s_law_draw) (defScope s_law_draw) .none v138 v139 v140 an135 v141 v142), sl136⟩)
    (c145 : PySem.W.codeIn K v141 "_law_draw" = true)
    (k146 : PySem.W.keepIn K (.ref f133) = true)
    (h157 : PySem.W.nsIn K mainGlobals "_law_ways" = some (some (.ref f147)))
    (l158 : K.lookup f147 = some ⟨v151, od148, .func (PySem.W.fnOf "_law_ways" "_law_ways" (defArgs s_law_ways) (defBody s_law_ways) (defScope s_law_ways) .none v152 v153 v154 an149 v155 v156), sl150⟩)
    (c159 : PySem.W.codeIn K v155 "_law_ways" = true)
    (k160 : PySem.W.keepIn K (.ref f147) = true)
    (h171 : PySem.W.nsIn K mainGlobals "_law_lot" = some (some (.ref f161)))
    (l172 : K.lookup f161 = some ⟨v165, od162, .func (PySem.W.fnOf "_law_lot" "_law_lot" (defArgs s_law_lot) (defBody s_law_lot) (defScope s_law_lot) .none v166 v167 v168 an163 v169 v170), sl164⟩)
    (c173 : PySem.W.codeIn K v169 "_law_lot" = true)
    (k174 : PySem.W.keepIn K (.ref f161) = true)
    (h185 : PySem.W.nsIn K mainGlobals "is_way" = some (some (.ref f175)))
    (l186 : K.lookup f175 = some ⟨v179, od176, .func (PySem.W.fnOf "is_way" "is_way" (defArgs s_is_way) (defBody s_is_way) (defScope s_is_way) .none v180 v181 v182 an177 v183 v184), sl178⟩)
    (c187 : PySem.W.codeIn K v183 "is_way" = true)
    (k188 : PySem.W.keepIn K (.ref f175) = true)
    (h199 : PySem.W.nsIn K mainGlobals "check_way" = some (some (.ref f189)))
    (l200 : K.lookup f189 = some ⟨v193, od190, .func (PySem.W.fnOf "check_way" "check_way" (defArgs s_check_way) (defBody s_check_way) (defScope s_check_way) .none v194 v195 v196 an191 v197 v198), sl192⟩)
    (c201 : PySem.W.codeIn K v197 "check_way" = true)
    (k202 : PySem.W.keepIn K (.ref f189) = true)
    (h213 : PySem.W.nsIn K mainGlobals "place_of" = some (some (.ref f203)))
    (l214 : K.lookup f203 = some ⟨v207, od204, .func (PySem.W.fnOf "place_of" "place_of" (defArgs s_place_of) (defBody s_place_of) (defScope s_place_of) .none v208 v209 v210 an205 v211 v212), sl206⟩)
    (c215 : PySem.W.codeIn K v211 "place_of" = true)
    (k216 : PySem.W.keepIn K (.ref f203) = true)
    (h227 : PySem.W.nsIn K mainGlobals "ordered" = some (some (.ref f217)))
    (l228 : K.lookup f217 = some ⟨v221, od218, .func (PySem.W.fnOf "ordered" "ordered" (defArgs s_ordered) (defBody s_ordered) (defScope s_ordered) .none v222 v223 v224 an219 v225 v226), sl220⟩)
    (c229 : PySem.W.codeIn K v225 "ordered" = true)
    (k230 : PySem.W.keepIn K (.ref f217) = true)
    (h241 : PySem.W.nsIn K mainGlobals "lot_of" = some (some (.ref f231)))
    (l242 : K.lookup f231 = some ⟨v235, od232, .func (PySem.W.fnOf "lot_of" "lot_of" (defArgs s_lot_of) (defBody s_lot_of) (defScope s_lot_of) .none v236 v237 v238 an233 v239 v240), sl234⟩)
    (c243 : PySem.W.codeIn K v239 "lot_of" = true)
    (k244 : PySem.W.keepIn K (.ref f231) = true)
    (h255 : PySem.W.nsIn K mainGlobals "_law_told" = some (some (.ref f245)))
    (l256 : K.lookup f245 = some ⟨v249, od246, .func (PySem.W.fnOf "_law_told" "_law_told" (defArgs s_law_told) (defBody s_law_told) (defScope s_law_told) .none v250 v251 v252 an247 v253 v254), sl248⟩)
    (c257 : PySem.W.codeIn K v253 "_law_told" = true)
    (k258 : PySem.W.keepIn K (.ref f245) = true)
    (h269 : PySem.W.nsIn K mainGlobals "_law_same" = some (some (.ref f259)))
    (l270 : K.lookup f259 = some ⟨v263, od260, .func (PySem.W.fnOf "_law_same" "_law_same" (defArgs s_law_same) (defBody s_law_same) (defScope s_law_same) .none v264 v265 v266 an261 v267 v268), sl262⟩)
    (c271 : PySem.W.codeIn K v267 "_law_same" = true)
    (k272 : PySem.W.keepIn K (.ref f259) = true)
    (h283 : PySem.W.nsIn K mainGlobals "_law_words_hold" = some (some (.ref f273)))
    (l284 : K.lookup f273 = some ⟨v277, od274, .func (PySem.W.fnOf "_law_words_hold" "_law_words_hold" (defArgs s_law_words_hold) (defBody s_law_words_hold) (defScope s_law_words_hold) .none v278 v279 v280 an275 v281 v282), sl276⟩)
    (c285 : PySem.W.codeIn K v281 "_law_words_hold" = true)
    (k286 : PySem.W.keepIn K (.ref f273) = true)
    (h297 : PySem.W.nsIn K mainGlobals "_law_drawn_lot" = some (some (.ref f287)))
    (l298 : K.lookup f287 = some ⟨v291, od288, .func (PySem.W.fnOf "_law_drawn_lot" "_law_drawn_lot" (defArgs s_law_drawn_lot) (defBody s_law_drawn_lot) (defScope s_law_drawn_lot) .none v292 v293 v294 an289 v295 v296), sl290⟩)
    (c299 : PySem.W.codeIn K v295 "_law_drawn_lot" = true)
    (k300 : PySem.W.keepIn K (.ref f287) = true)
    (h311 : PySem.W.nsIn K mainGlobals "joined_lots" = some (some (.ref f301)))
    (l312 : K.lookup f301 = some ⟨v305, od302, .func (PySem.W.fnOf "joined_lots" "joined_lots" (defArgs s_joined_lots) (defBody s_joined_lots) (defScope s_joined_lots) .none v306 v307 v308 an303 v309 v310), sl304⟩)
    (c313 : PySem.W.codeIn K v309 "joined_lots" = true)
    (k314 : PySem.W.keepIn K (.ref f301) = true)
    (h325 : PySem.W.nsIn K mainGlobals "common" = some (some (.ref f315)))
    (l326 : K.lookup f315 = some ⟨v319, od316, .func (PySem.W.fnOf "common" "common" (defArgs s_common) (defBody s_common) (defScope s_common) .none v320 v321 v322 an317 v323 v324), sl318⟩)
    (c327 : PySem.W.codeIn K v323 "common" = true)
    (k328 : PySem.W.keepIn K (.ref f315) = true)
    (h339 : PySem.W.nsIn K mainGlobals "ways" = some (some (.ref f329)))
    (l340 : K.lookup f329 = some ⟨v333, od330, .func (PySem.W.fnOf "ways" "ways" (defArgs s_ways) (defBody s_ways) (defScope s_ways) .none v334 v335 v336 an331 v337 v338), sl332⟩)
    (c341 : PySem.W.codeIn K v337 "ways" = true)
    (k342 : PySem.W.keepIn K (.ref f329) = true)
    (h353 : PySem.W.nsIn K mainGlobals "other_ways" = some (some (.ref f343)))
    (l354 : K.lookup f343 = some ⟨v347, od344, .func (PySem.W.fnOf "other_ways" "other_ways" (defArgs s_other_ways) (defBody s_other_ways) (defScope s_other_ways) .none v348 v349 v350 an345 v351 v352), sl346⟩)
    (c355 : PySem.W.codeIn K v351 "other_ways" = true)
    (k356 : PySem.W.keepIn K (.ref f343) = true)
    (h367 : PySem.W.nsIn K mainGlobals "ring_sample" = some (some (.ref f357)))
    (l368 : K.lookup f357 = some ⟨v361, od358, .func (PySem.W.fnOf "ring_sample" "ring_sample" (defArgs s_ring_sample) (defBody s_ring_sample) (defScope s_ring_sample) .none v362 v363 v364 an359 v365 v366), sl360⟩)
    (c369 : PySem.W.codeIn K v365 "ring_sample" = true)
    (k370 : PySem.W.keepIn K (.ref f357) = true)
    (h381 : PySem.W.nsIn K mainGlobals "turned" = some (some (.ref f371)))
    (l382 : K.lookup f371 = some ⟨v375, od372, .func (PySem.W.fnOf "turned" "turned" (defArgs s_turned) (defBody s_turned) (defScope s_turned) .none v376 v377 v378 an373 v379 v380), sl374⟩)
    (c383 : PySem.W.codeIn K v379 "turned" = true)
    (k384 : PySem.W.keepIn K (.ref f371) = true)
    (h395 : PySem.W.nsIn K mainGlobals "place" = some (some (.ref f385)))
    (l396 : K.lookup f385 = some ⟨v389, od386, .func (PySem.W.fnOf "place" "place" (defArgs s_place) (defBody s_place) (defScope s_place) .none v390 v391 v392 an387 v393 v394), sl388⟩)
    (c397 : PySem.W.codeIn K v393 "place" = true)
    (k398 : PySem.W.keepIn K (.ref f385) = true)
    (h409 : PySem.W.nsIn K mainGlobals "ring_way" = some (some (.ref f399)))
    (l410 : K.lookup f399 = some ⟨v403, od400, .func (PySem.W.fnOf "ring_way" "ring_way" (defArgs s_ring_way) (defBody s_ring_way) (defScope s_ring_way) .none v404 v405 v406 an401 v407 v408), sl402⟩)
    (c411 : PySem.W.codeIn K v407 "ring_way" = true)
    (k412 : PySem.W.keepIn K (.ref f399) = true)
    (h423 : PySem.W.nsIn K mainGlobals "back" = some (some (.ref f413)))
    (l424 : K.lookup f413 = some ⟨v417, od414, .func (PySem.W.fnOf "back" "back" (defArgs s_back) (defBody s_back) (defScope s_back) .none v418 v419 v420 an415 v421 v422), sl416⟩)
    (c425 : PySem.W.codeIn K v421 "back" = true)
    (k426 : PySem.W.keepIn K (.ref f413) = true)
    (h437 : PySem.W.nsIn K mainGlobals "back_lot" = some (some (.ref f427)))
    (l438 : K.lookup f427 = some ⟨v431, od428, .func (PySem.W.fnOf "back_lot" "back_lot" (defArgs s_back_lot) (defBody s_back_lot) (defScope s_back_lot) .none v432 v433 v434 an429 v435 v436), sl430⟩)
    (c439 : PySem.W.codeIn K v435 "back_lot" = true)
    (k440 : PySem.W.keepIn K (.ref f427) = true)
    (h451 : PySem.W.nsIn K mainGlobals "_law_ring_row" = some (some (.ref f441)))
    (l452 : K.lookup f441 = some ⟨v445, od442, .func (PySem.W.fnOf "_law_ring_row" "_law_ring_row" (defArgs s_law_ring_row) (defBody s_law_ring_row) (defScope s_law_ring_row) .none v446 v447 v448 an443 v449 v450), sl444⟩)
    (c453 : PySem.W.codeIn K v449 "_law_ring_row" = true)
    (k454 : PySem.W.keepIn K (.ref f441) = true)
    (h465 : PySem.W.nsIn K mainGlobals "_law_ring_way" = some (some (.ref f455)))
    (l466 : K.lookup f455 = some ⟨v459, od456, .func (PySem.W.fnOf "_law_ring_way" "_law_ring_way" (defArgs s_law_ring_way) (defBody s_law_ring_way) (defScope s_law_ring_way) .none v460 v461 v462 an457 v463 v464), sl458⟩)
    (c467 : PySem.W.codeIn K v463 "_law_ring_way" = true)
    (k468 : PySem.W.keepIn K (.ref f455) = true)
    (h479 : PySem.W.nsIn K mainGlobals "_law_back" = some (some (.ref f469)))
    (l480 : K.lookup f469 = some ⟨v473, od470, .func (PySem.W.fnOf "_law_back" "_law_back" (defArgs s_law_back) (defBody s_law_back) (defScope s_law_back) .none v474 v475 v476 an471 v477 v478), sl472⟩)
    (c481 : PySem.W.codeIn K v477 "_law_back" = true)
    (k482 : PySem.W.keepIn K (.ref f469) = true)
    (h493 : PySem.W.nsIn K mainGlobals "mirrored" = some (some (.ref f483)))
    (l494 : K.lookup f483 = some ⟨v487, od484, .func (PySem.W.fnOf "mirrored" "mirrored" (defArgs s_mirrored) (defBody s_mirrored) (defScope s_mirrored) .none v488 v489 v490 an485 v491 v492), sl486⟩)
    (c495 : PySem.W.codeIn K v491 "mirrored" = true)
    (k496 : PySem.W.keepIn K (.ref f483) = true)
    (h507 : PySem.W.nsIn K mainGlobals "mirrored_lot" = some (some (.ref f497)))
    (l508 : K.lookup f497 = some ⟨v501, od498, .func (PySem.W.fnOf "mirrored_lot" "mirrored_lot" (defArgs s_mirrored_lot) (defBody s_mirrored_lot) (defScope s_mirrored_lot) .none v502 v503 v504 an499 v505 v506), sl500⟩)
    (c509 : PySem.W.codeIn K v505 "mirrored_lot" = true)
    (k510 : PySem.W.keepIn K (.ref f497) = true)
    (h521 : PySem.W.nsIn K mainGlobals "_law_mirrored" = some (some (.ref f511)))
    (l522 : K.lookup f511 = some ⟨v515, od512, .func (PySem.W.fnOf "_law_mirrored" "_law_mirrored" (defArgs s_law_mirrored) (defBody s_law_mirrored) (defScope s_law_mirrored) .none v516 v517 v518 an513 v519 v520), sl514⟩)
    (c523 : PySem.W.codeIn K v519 "_law_mirrored" = true)
    (k524 : PySem.W.keepIn K (.ref f511) = true)
    (h535 : PySem.W.nsIn K mainGlobals "_law_spoilt" = some (some (.ref f525)))
    (l536 : K.lookup f525 = some ⟨v529, od526, .func (PySem.W.fnOf "_law_spoilt" "_law_spoilt" (defArgs s_law_spoilt) (defBody s_law_spoilt) (defScope s_law_spoilt) .none v530 v531 v532 an527 v533 v534), sl528⟩)
    (c537 : PySem.W.codeIn K v533 "_law_spoilt" = true)
    (k538 : PySem.W.keepIn K (.ref f525) = true)
    (h549 : PySem.W.nsIn K mainGlobals "has_doubles" = some (some (.ref f539)))
    (l550 : K.lookup f539 = some ⟨v543, od540, .func (PySem.W.fnOf "has_doubles" "has_doubles" (defArgs s_has_doubles) (defBody s_has_doubles) (defScope s_has_doubles) .none v544 v545 v546 an541 v547 v548), sl542⟩)
    (c551 : PySem.W.codeIn K v547 "has_doubles" = true)
    (k552 : PySem.W.keepIn K (.ref f539) = true)
    (h563 : PySem.W.nsIn K mainGlobals "is_lot" = some (some (.ref f553)))
    (l564 : K.lookup f553 = some ⟨v557, od554, .func (PySem.W.fnOf "is_lot" "is_lot" (defArgs s_is_lot) (defBody s_is_lot) (defScope s_is_lot) .none v558 v559 v560 an555 v561 v562), sl556⟩)
    (c565 : PySem.W.codeIn K v561 "is_lot" = true)
    (k566 : PySem.W.keepIn K (.ref f553) = true)
    (h577 : PySem.W.nsIn K mainGlobals "_law_is_lot" = some (some (.ref f567)))
    (l578 : K.lookup f567 = some ⟨v571, od568, .func (PySem.W.fnOf "_law_is_lot" "_law_is_lot" (defArgs s_law_is_lot) (defBody s_law_is_lot) (defScope s_law_is_lot) .none v572 v573 v574 an569 v575 v576), sl570⟩)
    (c579 : PySem.W.codeIn K v575 "_law_is_lot" = true)
    (k580 : PySem.W.keepIn K (.ref f567) = true)
    (h591 : PySem.W.nsIn K mainGlobals "law" = some (some (.ref f581)))
    (l592 : K.lookup f581 = some ⟨v585, od582, .func (PySem.W.fnOf "law" "law" (defArgs s_law) (defBody s_law) (defScope s_law) .none v586 v587 v588 an583 v589 v590), sl584⟩)
    (c593 : PySem.W.codeIn K v589 "law" = true)
    (k594 : PySem.W.keepIn K (.ref f581) = true)
    : ∃ fd : FuncData, (∀ (s : Shared) (u : Value), BindsTo s fd ⟨[u], []⟩ [("script", u)]) ∧ ∀ base : Heap, K.In base → base.Ns mainGlobals mg → FnOk l.prog w K mg base (L2.CX l.prog w) 7 fa fd ["script"] (lawSpV K) :=
  have T : Txt l.prog K mg w := ⟨n_mk X G z1,
    n_mk X G z2,
    n_mk X G z3,
    n_mk X G z4,
    n_mk X G z5,
    n_mk X G z6,
    n_mk X G z7,
    n_mk X G z8,
    n_mk X G z9,
    n_mk X G z10,
    n_mk X G z11,
    x12,
    x13,
    x14,
    ktp_mk X G c18 l24 (uv_tup l24 s25 (by rw [e42]; exact (.cons uv_str (.cons uv_str (.cons uv_str (.cons uv_str (.cons uv_str (.cons uv_str (.cons uv_str (.cons uv_str (.cons uv_str (.cons uv_str (.cons uv_str (.cons uv_str (.cons uv_str (.cons uv_str (.cons uv_str (.cons uv_str .nil)))))))))))))))))),
    kc_mk X G c16 uv_str,
    kc_mk X G c18 (uv_tup l24 s25 (by rw [e42]; exact (.cons uv_str (.cons uv_str (.cons uv_str (.cons uv_str (.cons uv_str (.cons uv_str (.cons uv_str (.cons uv_str (.cons uv_str (.cons uv_str (.cons uv_str (.cons uv_str (.cons uv_str (.cons uv_str (.cons uv_str (.cons uv_str .nil)))))))))))))))))),
    kc_mk X G c43 (uv_tup l49 s50 (by rw [e54]; exact (.cons uv_str (.cons uv_str (.cons uv_str .nil))))),
    kdc_mk X G c58 l59 q60 (ka_cons e61 uv_str (ka_cons e63 uv_str (ka_cons e65 uv_str (ka_cons e67 uv_str (ka_cons e69 uv_str (ka_cons e71 uv_str (ka_cons e73 uv_str (ka_cons e75 uv_str (ka_cons e77 uv_str (ka_cons e79 uv_str (ka_cons e81 uv_str (ka_cons e83 uv_str (ka_cons e85 uv_str ka_nil))))))))))))),
    kdc_mk X G c90 l91 q92 (ka_cons e93 uv_str (ka_cons e95 uv_str (ka_cons e97 uv_str (ka_cons e99 uv_str (ka_cons e101 uv_str (ka_cons e103 uv_str (ka_cons e105 uv_str (ka_cons e107 uv_str (ka_cons e109 uv_str (ka_cons e111 uv_str (ka_cons e113 uv_str (ka_cons e115 uv_str (ka_cons e117 uv_str ka_nil))))))))))))),
    df_mk (st := s_law_pool) X G h129 l130 c131 k132 (fun _ _ _ _ _ _ us hl => match us, hl with | [_], _ => rfl),
    df_mk (st := s_law_draw) X G h143 l144 c145 k146 (fun _ _ _ _ _ _ us hl => match us, hl with | [_, _], _ => rfl),
    df_mk (st := s_law_ways) X G h157 l158 c159 k160 (fun _ _ _ _ _ _ us hl => match us, hl with | [_], _ => rfl),
    df_mk (st := s_law_lot) X G h171 l172 c173 k174 (fun _ _ _ _ _ _ us hl => match us, hl with | [_, _], _ => rfl),
    df_mk (st := s_is_way) X G h185 l186 c187 k188 (fun _ _ _ _ _ _ us hl => match us, hl with | [_, _], _ => rfl),
    df_mk (st := s_check_way) X G h199 l200 c201 k202 (fun _ _ _ _ _ _ us hl => match us, hl with | [_, _], _ => rfl),
    df_mk (st := s_place_of) X G h213 l214 c215 k216 (fun _ _ _ _ _ _ us hl => match us, hl with | [_, _], _ => rfl),
    df_mk (st := s_ordered) X G h227 l228 c229 k230 (fun _ _ _ _ _ _ us hl => match us, hl with | [_, _], _ => rfl),
    df_mk (st := s_lot_of) X G h241 l242 c243 k244 (fun _ _ _ _ _ _ us hl => match us, hl with | [_, _], _ => rfl),
    df_mk (st := s_law_told) X G h255 l256 c257 k258 (fun _ _ _ _ _ _ us hl => match us, hl with | [_, _], _ => rfl),
    df_mk (st := s_law_same) X G h269 l270 c271 k272 (fun _ _ _ _ _ _ us hl => match us, hl with | [_, _], _ => rfl),
    df_mk (st := s_law_words_hold) X G h283 l284 c285 k286 (fun _ _ _ _ _ _ us hl => match us, hl with | [_, _], _ => rfl),
    df_mk (st := s_law_drawn_lot) X G h297 l298 c299 k300 (fun _ _ _ _ _ _ us hl => match us, hl with | [_, _, _], _ => rfl),
    df_mk (st := s_joined_lots) X G h311 l312 c313 k314 (fun _ _ _ _ _ _ us hl => match us, hl with | [_, _, _], _ => rfl),
    df_mk (st := s_common) X G h325 l326 c327 k328 (fun _ _ _ _ _ _ us hl => match us, hl with | [_, _, _], _ => rfl),
    df_mk (st := s_ways) X G h339 l340 c341 k342 (fun _ _ _ _ _ _ us hl => match us, hl with | [_], _ => rfl),
    df_mk (st := s_other_ways) X G h353 l354 c355 k356 (fun _ _ _ _ _ _ us hl => match us, hl with | [_, _], _ => rfl),
    df_mk (st := s_ring_sample) X G h367 l368 c369 k370 (fun _ _ _ _ _ _ us hl => match us, hl with | [_], _ => rfl),
    df_mk (st := s_turned) X G h381 l382 c383 k384 (fun _ _ _ _ _ _ us hl => match us, hl with | [_, _, _], _ => rfl),
    df_mk (st := s_place) X G h395 l396 c397 k398 (fun _ _ _ _ _ _ us hl => match us, hl with | [_, _], _ => rfl),
    df_mk (st := s_ring_way) X G h409 l410 c411 k412 (fun _ _ _ _ _ _ us hl => match us, hl with | [_, _], _ => rfl),
    df_mk (st := s_back) X G h423 l424 c425 k426 (fun _ _ _ _ _ _ us hl => match us, hl with | [_, _], _ => rfl),
    df_mk (st := s_back_lot) X G h437 l438 c439 k440 (fun _ _ _ _ _ _ us hl => match us, hl with | [_, _], _ => rfl),
    df_mk (st := s_law_ring_row) X G h451 l452 c453 k454 (fun _ _ _ _ _ _ us hl => match us, hl with | [_], _ => rfl),
    df_mk (st := s_law_ring_way) X G h465 l466 c467 k468 (fun _ _ _ _ _ _ us hl => match us, hl with | [_, _], _ => rfl),
    df_mk (st := s_law_back) X G h479 l480 c481 k482 (fun _ _ _ _ _ _ us hl => match us, hl with | [_, _], _ => rfl),
    df_mk (st := s_mirrored) X G h493 l494 c495 k496 (fun _ _ _ _ _ _ us hl => match us, hl with | [_, _], _ => rfl),
    df_mk (st := s_mirrored_lot) X G h507 l508 c509 k510 (fun _ _ _ _ _ _ us hl => match us, hl with | [_, _], _ => rfl),
    df_mk (st := s_law_mirrored) X G h521 l522 c523 k524 (fun _ _ _ _ _ _ us hl => match us, hl with | [_, _], _ => rfl),
    df_mk (st := s_law_spoilt) X G h535 l536 c537 k538 (fun _ _ _ _ _ _ us hl => match us, hl with | [_, _, _], _ => rfl),
    df_mk (st := s_has_doubles) X G h549 l550 c551 k552 (fun _ _ _ _ _ _ us hl => match us, hl with | [_], _ => rfl),
    df_mk (st := s_is_lot) X G h563 l564 c565 k566 (fun _ _ _ _ _ _ us hl => match us, hl with | [_, _], _ => rfl),
    df_mk (st := s_law_is_lot) X G h577 l578 c579 k580 (fun _ _ _ _ _ _ us hl => match us, hl with | [_, _], _ => rfl)⟩
  law_fn (st := s_law) X G hfa h591 l592 c593 k594 (fun s v => .of_eq rfl) fun base hb F => all_fn T F
end Lk03
open PySem PySem.W PyProof.Rows in
set_option maxRecDepth 100000 in
set_option maxHeartbeats 0 in
theorem PySem.Challenge.cw_stretchways_k03_lots_of_ways_holds : PySem.Challenge.rw_stretchways_k03_lots_of_ways.Holds := by
  w_on; o_law; k_head; (case hw => w_witness2)
  k_fill
  refine DL.walkD (l := PySem.Challenge.rw_stretchways_k03_lots_of_ways) (k := 7) rfl rfl ⟨rfl, by decide, by decide⟩ (fun w h Y => PySem.W.kIn_of Y) ?F
  case F =>
    intro w mg fa h KX G hmg
    refine' Lk03.all_mk KX G hmg ?z1 ?z2 ?z3 ?z4 ?z5 ?z6 ?z7 ?z8 ?z9 ?z10 ?z11 ?x12 ?x13 ?x14 ?c16 ?c18 ?l24 ?s25 ?e42 ?c43 ?l49 ?s50 ?e54 ?c58 ?l59 ?q60 ?e61 ?e63 ?e65 ?e67 ?e69 ?e71 ?e73 ?e75 ?e77 ?e79 ?e81 ?e83 ?e85 ?c90 ?l91 ?q92 ?e93 ?e95 ?e97 ?e99 ?e101 ?e103 ?e105 ?e107 ?e109 ?e111 ?e113 ?e115 ?e117 ?h129 ?l130 ?c131 ?k132 ?h143 ?l144 ?c145 ?k146 ?h157 ?l158 ?c159 ?k160 ?h171 ?l172 ?c173 ?k174 ?h185 ?l186 ?c187 ?k188 ?h199 ?l200 ?c201 ?k202 ?h213 ?l214 ?c215 ?k216 ?h227 ?l228 ?c229 ?k230 ?h241 ?l242 ?c243 ?k244 ?h255 ?l256 ?c257 ?k258 ?h269 ?l270 ?c271 ?k272 ?h283 ?l284 ?c285 ?k286 ?h297 ?l298 ?c299 ?k300 ?h311 ?l312 ?c313 ?k314 ?h325 ?l326 ?c327 ?k328 ?h339 ?l340 ?c341 ?k342 ?h353 ?l354 ?c355 ?k356 ?h367 ?l368 ?c369 ?k370 ?h381 ?l382 ?c383 ?k384 ?h395 ?l396 ?c397 ?k398 ?h409 ?l410 ?c411 ?k412 ?h423 ?l424 ?c425 ?k426 ?h437 ?l438 ?c439 ?k440 ?h451 ?l452 ?c453 ?k454 ?h465 ?l466 ?c467 ?k468 ?h479 ?l480 ?c481 ?k482 ?h493 ?l494 ?c495 ?k496 ?h507 ?l508 ?c509 ?k510 ?h521 ?l522 ?c523 ?k524 ?h535 ?l536 ?c537 ?k538 ?h549 ?l550 ?c551 ?k552 ?h563 ?l564 ?c565 ?k566 ?h577 ?l578 ?c579 ?k580 ?h591 ?l592 ?c593 ?k594
    (case z1 => k_is)
    (case z2 => k_is)
    (case z3 => k_is)
    (case z4 => k_is)
    (case z5 => k_is)
    (case z6 => k_is)
    (case z7 => k_is)
    (case z8 => k_is)
    (case z9 => k_is)
    (case z10 => k_is)
    (case z11 => k_is)
    (case x12 => (refine' DL.exd1_mk KX G ?xa_UnknownKind ?xl_UnknownKind ?xo_UnknownKind ?xn_UnknownKind ?sa_UnknownKind ?xb_UnknownKind ?xt_UnknownKind ?xk_UnknownKind ?xv_UnknownKind ?xm_UnknownKind ?ii_UnknownKind ?ti_UnknownKind ?lf_UnknownKind ?cd_UnknownKind ?sb_UnknownKind ?gl_UnknownKind ?cl_UnknownKind ?kc_UnknownKind ?ce_UnknownKind ?ke_UnknownKind ?kv_UnknownKind ?pf_UnknownKind ?pt_UnknownKind ?ar_UnknownKind ?ms_UnknownKind ?oq_UnknownKind ?no1_UnknownKind ?hbody_UnknownKind ?hb_UnknownKind ?db_UnknownKind ?hev_UnknownKind); (case xa_UnknownKind => k_is); (case xl_UnknownKind => k_is); (case xo_UnknownKind => k_is); (case xn_UnknownKind => k_is); (case sa_UnknownKind => k_is); (case xb_UnknownKind => k_is); (case xt_UnknownKind => k_is); (case xk_UnknownKind => k_is); (case xv_UnknownKind => k_is); (case xm_UnknownKind => k_is); (case ii_UnknownKind => k_is); (case ti_UnknownKind => k_is); (case lf_UnknownKind => k_is); (case hbody_UnknownKind => rfl); (case cd_UnknownKind => k_is); (case sb_UnknownKind => decide +kernel); (case gl_UnknownKind => exact ⟨rfl, rfl⟩); (case cl_UnknownKind => rfl); (case kc_UnknownKind => k_is); (case ce_UnknownKind => rfl); (case ke_UnknownKind => k_is); (case kv_UnknownKind => rfl); (case pf_UnknownKind => decide +kernel); (case pt_UnknownKind => decide +kernel); (case ar_UnknownKind => exact ⟨_, rfl, rfl⟩); (case ms_UnknownKind => k_is); (case oq_UnknownKind => k_is); (case no1_UnknownKind => k_is); (case hb_UnknownKind => exact fun us hl => match us, hl with | [_, _], _ => rfl); (case db_UnknownKind => decide); (case hev_UnknownKind => exact fun _ => rfl))
    (case x13 => (refine' DL.exd1_mk KX G ?xa_BadWay ?xl_BadWay ?xo_BadWay ?xn_BadWay ?sa_BadWay ?xb_BadWay ?xt_BadWay ?xk_BadWay ?xv_BadWay ?xm_BadWay ?ii_BadWay ?ti_BadWay ?lf_BadWay ?cd_BadWay ?sb_BadWay ?gl_BadWay ?cl_BadWay ?kc_BadWay ?ce_BadWay ?ke_BadWay ?kv_BadWay ?pf_BadWay ?pt_BadWay ?ar_BadWay ?ms_BadWay ?oq_BadWay ?no1_BadWay ?hbody_BadWay ?hb_BadWay ?db_BadWay ?hev_BadWay); (case xa_BadWay => k_is); (case xl_BadWay => k_is); (case xo_BadWay => k_is); (case xn_BadWay => k_is); (case sa_BadWay => k_is); (case xb_BadWay => k_is); (case xt_BadWay => k_is); (case xk_BadWay => k_is); (case xv_BadWay => k_is); (case xm_BadWay => k_is); (case ii_BadWay => k_is); (case ti_BadWay => k_is); (case lf_BadWay => k_is); (case hbody_BadWay => rfl); (case cd_BadWay => k_is); (case sb_BadWay => decide +kernel); (case gl_BadWay => exact ⟨rfl, rfl⟩); (case cl_BadWay => rfl); (case kc_BadWay => k_is); (case ce_BadWay => rfl); (case ke_BadWay => k_is); (case kv_BadWay => rfl); (case pf_BadWay => decide +kernel); (case pt_BadWay => decide +kernel); (case ar_BadWay => exact ⟨_, rfl, rfl⟩); (case ms_BadWay => k_is); (case oq_BadWay => k_is); (case no1_BadWay => k_is); (case hb_BadWay => exact fun us hl => match us, hl with | [_, _], _ => rfl); (case db_BadWay => decide); (case hev_BadWay => exact fun _ => rfl))
    (case x14 => (refine' DL.ert_mk (DL.owns_mk KX G ?qq1 ?qq2 ?qq3 ?qq4 ?qq5 ?qq6 ?qq7 ?qq8 ?qq9 ?qq10 (DL.owns_mk KX G ?qq11 ?qq12 ?qq13 ?qq14 ?qq15 ?qq16 ?qq17 ?qq18 ?qq19 ?qq20 .nil)) (DL.fts_mk KX G ?qq21 ?qq22 ?qq23 ?qq24 ?qq25 ?qq26 .nil) (DL.tabr_mk KX G ?qq27 ?qq28 ?qq29 ?qq30 ?qq31 (DL.col_mk KX G ?qq32 ?qq33 (DL.col_mk KX G ?qq34 ?qq35 .nil)) (DL.tabr_mk KX G ?qq36 ?qq37 ?qq38 ?qq39 ?qq40 (DL.col_mk KX G ?qq41 ?qq42 (DL.col_mk KX G ?qq43 ?qq44 .nil)) (DL.tabr_mk KX G ?qq45 ?qq46 ?qq47 ?qq48 ?qq49 (DL.col_mk KX G ?qq50 ?qq51 (DL.col_mk KX G ?qq52 ?qq53 .nil)) (DL.tabr_mk KX G ?qq54 ?qq55 ?qq56 ?qq57 ?qq58 (DL.col_mk KX G ?qq59 ?qq60 (DL.col_mk KX G ?qq61 ?qq62 .nil)) (DL.tabr_mk KX G ?qq63 ?qq64 ?qq65 ?qq66 ?qq67 (DL.col_mk KX G ?qq68 ?qq69 (DL.col_mk KX G ?qq70 ?qq71 .nil)) (DL.tabt_mk (T := "ValueError") KX G ?qq72 ?qq73 ?qq74 ?qq75 (DL.col_mk KX G ?qq76 ?qq77 (DL.col_mk KX G ?qq78 ?qq79 .nil)) .nil))))))); (case qq1 => k_is); (case qq2 => k_is); (case qq3 => k_is); (case qq4 => k_is); (case qq5 => k_is); (case qq6 => k_is); (case qq7 => k_is); (case qq8 => k_is); (case qq9 => k_is); (case qq10 => k_is); (case qq11 => k_is); (case qq12 => k_is); (case qq13 => k_is); (case qq14 => k_is); (case qq15 => k_is); (case qq16 => k_is); (case qq17 => k_is); (case qq18 => k_is); (case qq19 => k_is); (case qq20 => k_is); (case qq21 => k_is); (case qq22 => k_is); (case qq23 => k_is); (case qq24 => k_is); (case qq25 => k_is); (case qq26 => k_is); (case qq27 => k_is); (case qq28 => k_is); (case qq29 => k_is); (case qq30 => k_is); (case qq31 => k_is); (case qq32 => k_is); (case qq33 => k_is); (case qq34 => k_is); (case qq35 => k_is); (case qq36 => k_is); (case qq37 => k_is); (case qq38 => k_is); (case qq39 => k_is); (case qq40 => k_is); (case qq41 => k_is); (case qq42 => k_is); (case qq43 => k_is); (case qq44 => k_is); (case qq45 => k_is); (case qq46 => k_is); (case qq47 => k_is); (case qq48 => k_is); (case qq49 => k_is); (case qq50 => k_is); (case qq51 => k_is); (case qq52 => k_is); (case qq53 => k_is); (case qq54 => k_is); (case qq55 => k_is); (case qq56 => k_is); (case qq57 => k_is); (case qq58 => k_is); (case qq59 => k_is); (case qq60 => k_is); (case qq61 => k_is); (case qq62 => k_is); (case qq63 => k_is); (case qq64 => k_is); (case qq65 => k_is); (case qq66 => k_is); (case qq67 => k_is); (case qq68 => k_is); (case qq69 => k_is); (case qq70 => k_is); (case qq71 => k_is); (case qq72 => k_is); (case qq73 => decide +kernel); (case qq74 => decide +kernel); (case qq75 => k_is); (case qq76 => k_is); (case qq77 => k_is); (case qq78 => k_is); (case qq79 => k_is))
    (case c16 => k_is)
    (case c18 => k_is)
    (case l24 => k_is)
    (case s25 => decide)
    (case e42 => rfl)
    (case c43 => k_is)
    (case l49 => k_is)
    (case s50 => decide)
    (case e54 => rfl)
    (case c58 => k_is)
    (case l59 => k_is)
    (case q60 => k_keys)
    (case e61 => k_is)
    (case e63 => k_is)
    (case e65 => k_is)
    (case e67 => k_is)
    (case e69 => k_is)
    (case e71 => k_is)
    (case e73 => k_is)
    (case e75 => k_is)
    (case e77 => k_is)
    (case e79 => k_is)
    (case e81 => k_is)
    (case e83 => k_is)
    (case e85 => k_is)
    (case c90 => k_is)
    (case l91 => k_is)
    (case q92 => k_keys)
    (case e93 => k_is)
    (case e95 => k_is)
    (case e97 => k_is)
    (case e99 => k_is)
    (case e101 => k_is)
    (case e103 => k_is)
    (case e105 => k_is)
    (case e107 => k_is)
    (case e109 => k_is)
    (case e111 => k_is)
    (case e113 => k_is)
    (case e115 => k_is)
    (case e117 => k_is)
    (case h129 => k_is)
    (case l130 => k_is)
    (case c131 => k_is)
    (case k132 => k_is)
    (case h143 => k_is)
    (case l144 => k_is)
    (case c145 => k_is)
    (case k146 => k_is)
    (case h157 => k_is)
    (case l158 => k_is)
    (case c159 => k_is)
    (case k160 => k_is)
    (case h171 => k_is)
    (case l172 => k_is)
    (case c173 => k_is)
    (case k174 => k_is)
    (case h185 => k_is)
    (case l186 => k_is)
    (case c187 => k_is)
    (case k188 => k_is)
    (case h199 => k_is)
    (case l200 => k_is)
    (case c201 => k_is)
    (case k202 => k_is)
    (case h213 => k_is)
    (case l214 => k_is)
    (case c215 => k_is)
    (case k216 => k_is)
    (case h227 => k_is)
    (case l228 => k_is)
    (case c229 => k_is)
    (case k230 => k_is)
    (case h241 => k_is)
    (case l242 => k_is)
    (case c243 => k_is)
    (case k244 => k_is)
    (case h255 => k_is)
    (case l256 => k_is)
    (case c257 => k_is)
    (case k258 => k_is)
    (case h269 => k_is)
    (case l270 => k_is)
    (case c271 => k_is)
    (case k272 => k_is)
    (case h283 => k_is)
    (case l284 => k_is)
    (case c285 => k_is)
    (case k286 => k_is)
    (case h297 => k_is)
    (case l298 => k_is)
    (case c299 => k_is)
    (case k300 => k_is)
    (case h311 => k_is)
    (case l312 => k_is)
    (case c313 => k_is)
    (case k314 => k_is)
    (case h325 => k_is)
    (case l326 => k_is)
    (case c327 => k_is)
    (case k328 => k_is)
    (case h339 => k_is)
    (case l340 => k_is)
    (case c341 => k_is)
    (case k342 => k_is)
    (case h353 => k_is)
    (case l354 => k_is)
    (case c355 => k_is)
    (case k356 => k_is)
    (case h367 => k_is)
    (case l368 => k_is)
    (case c369 => k_is)
    (case k370 => k_is)
    (case h381 => k_is)
    (case l382 => k_is)
    (case c383 => k_is)
    (case k384 => k_is)
    (case h395 => k_is)
    (case l396 => k_is)
    (case c397 => k_is)
    (case k398 => k_is)
    (case h409 => k_is)
    (case l410 => k_is)
    (case c411 => k_is)
    (case k412 => k_is)
    (case h423 => k_is)
    (case l424 => k_is)
    (case c425 => k_is)
    (case k426 => k_is)
    (case h437 => k_is)
    (case l438 => k_is)
    (case c439 => k_is)
    (case k440 => k_is)
    (case h451 => k_is)
    (case l452 => k_is)
    (case c453 => k_is)
    (case k454 => k_is)
    (case h465 => k_is)
    (case l466 => k_is)
    (case c467 => k_is)
    (case k468 => k_is)
    (case h479 => k_is)
    (case l480 => k_is)
    (case c481 => k_is)
    (case k482 => k_is)
    (case h493 => k_is)
    (case l494 => k_is)
    (case c495 => k_is)
    (case k496 => k_is)
    (case h507 => k_is)
    (case l508 => k_is)
    (case c509 => k_is)
    (case k510 => k_is)
    (case h521 => k_is)
    (case l522 => k_is)
    (case c523 => k_is)
    (case k524 => k_is)
    (case h535 => k_is)
    (case l536 => k_is)
    (case c537 => k_is)
    (case k538 => k_is)
    (case h549 => k_is)
    (case l550 => k_is)
    (case c551 => k_is)
    (case k552 => k_is)
    (case h563 => k_is)
    (case l564 => k_is)
    (case c565 => k_is)
    (case k566 => k_is)
    (case h577 => k_is)
    (case l578 => k_is)
    (case c579 => k_is)
    (case k580 => k_is)
    (case h591 => k_is)
    (case l592 => k_is)
    (case c593 => k_is)
    (case k594 => k_is)
#print axioms PySem.Challenge.cw_stretchways_k03_lots_of_ways_holds
