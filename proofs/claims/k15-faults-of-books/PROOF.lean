import PyProof.Rows.All
import Wide.All
import OpenK.AllK
import Wide.FinOn
import HandS.ForMost
import HandS.Exc
import HandS.ExcOwn
import HandS.CallSlots
import HandS.WordsExc
import KE.KeyNested
import HandS.TupAny
import HandS.Wide
import HandS.IsInst
import HandS.Conv
import HandS.More
import HandS.EndBits
import HandS.SortInts
import HandS.Text
import HandS.StrMore
import KE.DatumOrd
import HandS.DictComp
import HandS.TupLe
import KE.KExcSuper
import KE.KSuper
import HandS.ExcInit
import HandS.Nested
import HandS.TryMany
import HandS.ExcField
import HandS.ExcIs
import KE.KExcIs
import HandS.Replace
import HandS.Strs
import PyProof.StrLawsIn
import KE.KDictDisplayH
import KE.KMathGC
import HandS.Gcd
import HandS.SetKeys
import KE.SortData
import PyProof.P3In
import KE.KIndexOf
import KE.KxMul
import PySem.Challenge.RW_stretchways_k15_faults_of_books
set_option Elab.async false
set_option linter.all false
set_option maxRecDepth 100000
namespace DL
open PySem L2
inductive D where
  | v (x : V)
  | t (ds : List D)
  /-- a list that is known and never changes (the script) -/
  | k (ds : List D)
mutual
def D.beq : D → D → Bool
  | .v x, .v y => decide (x = y)
  | .t xs, .t ys => D.beqs xs ys
  | .k xs, .k ys => D.beqs xs ys
  | _, _ => false
def D.beqs : List D → List D → Bool
  | [], [] => true
  | x :: xs, y :: ys => D.beq x y && D.beqs xs ys
  | _, _ => false
end
mutual
theorem D.beq_eq : ∀ {x y : D}, D.beq x y = true → x = y
  | .v x, .v y, h => by unfold D.beq at h; rw [of_decide_eq_true h]
  | .t xs, .t ys, h => by unfold D.beq at h; rw [D.beqs_eq h]
  | .k xs, .k ys, h => by unfold D.beq at h; rw [D.beqs_eq h]
  | .v _, .t _, h => by unfold D.beq at h; cases h
  | .t _, .v _, h => by unfold D.beq at h; cases h
  | .v _, .k _, h => by unfold D.beq at h; cases h
  | .k _, .v _, h => by unfold D.beq at h; cases h
  | .t _, .k _, h => by unfold D.beq at h; cases h
  | .k _, .t _, h => by unfold D.beq at h; cases h
theorem D.beqs_eq : ∀ {xs ys : List D}, D.beqs xs ys = true → xs = ys
  | [], [], _ => rfl
  | x :: xs, y :: ys, h => by
    unfold D.beqs at h
    rw [Bool.and_eq_true] at h
    rw [D.beq_eq h.1, D.beqs_eq h.2]
  | [], _ :: _, h => by unfold D.beqs at h; cases h
  | _ :: _, [], h => by unfold D.beqs at h; cases h
end
mutual
theorem D.beq_refl : ∀ (x : D), D.beq x x = true
  | .v x => by unfold D.beq; exact decide_eq_true rfl
  | .t xs => by unfold D.beq; exact D.beqs_refl xs
  | .k xs => by unfold D.beq; exact D.beqs_refl xs
theorem D.beqs_refl : ∀ (xs : List D), D.beqs xs xs = true
  | [] => by unfold D.beqs; rfl
  | x :: xs => by unfold D.beqs; rw [D.beq_refl x, D.beqs_refl xs]; rfl
end
instance : DecidableEq D := fun x y => match h : D.beq x y with
  | true => .isTrue (D.beq_eq h)
  | false => .isFalse fun e => by subst e; rw [D.beq_refl] at h; cases h
def SqF (K : PySem.W.Frag) (H : Hp) (a : Addr) (xs : List V) : Prop := (∃ o, H a = some (.frz o (.lst xs))) ∨ ∃ (o : Obj) (its : Array Value) (n : Nat), K.lookup a = some o ∧ o.cls = .type "list" ∧ o.dict = none ∧ o.data = .seq its n ∧ its.size ≤ sizeLine ∧ Vals xs its.toList
theorem SqF.sq {K : PySem.W.Frag} {H : Hp} {a : Addr} {xs : List V} (h : SqF K H a xs) : SqL K H a xs := h.imp (fun h => .inr h) id
structure SqP (K : PySem.W.Frag) (H : Hp) (a : Addr) (xs : List V) : Prop where
  sq : SqT K H a xs
  nd : (∃ ob us, H a = some (.frz ob (.tup us)) ∧ ob.dict = none) ∨ ∃ o, K.lookup a = some o ∧ o.dict = none
instance {K : PySem.W.Frag} {H : Hp} {a : Addr} {xs : List V} : Coe (SqP K H a xs) (SqT K H a xs) := ⟨SqP.sq⟩
theorem SqP.new {K : PySem.W.Frag} {H : Hp} {p : Addr} {ob : Obj} {xs : List V} (e : ob.dict = none) : SqP K (upd H p (.frz ob (.tup xs))) p xs := ⟨.inl (.inr ⟨ob, upd_same⟩), .inl ⟨ob, xs, upd_same, e⟩⟩
mutual
/-- the datum d is the value x over the abstract heap -/
inductive Rp (K : PySem.W.Frag) (H : Hp) : D → V → Prop
  | v (x : V) : Rp K H (.v x) x
  | t {ds : List D} {a : Addr} {vs : List V} : SqP K H a vs → Rps K H ds vs → Rp K H (.t ds) (.ref a)
  | k {ds : List D} {a : Addr} {vs : List V} : SqF K H a vs → Rps K H ds vs → Rp K H (.k ds) (.ref a)
inductive Rps (K : PySem.W.Frag) (H : Hp) : List D → List V → Prop
  | nil : Rps K H [] []
  | cons {d : D} {ds : List D} {x : V} {xs : List V} : Rp K H d x → Rps K H ds xs → Rps K H (d :: ds) (x :: xs)
end
structure Stb (H H' : Hp) : Prop where
  tup : ∀ b xs, H b = some (.tup xs) → H' b = some (.tup xs)
  frz : ∀ b o u, H b = some (.frz o u) → H' b = some (.frz o u)
theorem Stb.refl (H : Hp) : Stb H H := ⟨fun _ _ h => h, fun _ _ _ h => h⟩
theorem Stb.trans {H H1 H2 : Hp} (a : Stb H H1) (b : Stb H1 H2) : Stb H H2 := ⟨fun c xs h => b.tup c xs (a.tup c xs h), fun c o u h => b.frz c o u (a.frz c o u h)⟩
theorem Stb.new {H : Hp} {p : Addr} {o : HO} (h : H p = none) : Stb H (upd H p o) :=
  ⟨fun b xs e => by rw [upd_ne (ne_of_none e h)]; exact e, fun b o u e => by rw [upd_ne (ne_of_none e h)]; exact e⟩
def Mt : HO → Prop
  | .tup _ => False
  | .frz _ _ => False
  | _ => True
theorem Stb.set {H : Hp} {p : Addr} {o u : HO} (h : H p = some u) (m : Mt u) : Stb H (upd H p o) :=
  ⟨fun b xs e => by
    by_cases q : b = p
    · subst q; rw [h] at e; cases e; exact m.elim
    · rw [upd_ne q]; exact e, fun b o u e => by
    by_cases q : b = p
    · subst q; rw [h] at e; cases e; exact m.elim
    · rw [upd_ne q]; exact e⟩
section
variable {K : PySem.W.Frag} {H H' : Hp}
theorem Stb.sqT (s : Stb H H') {a : Addr} {xs : List V} (h : SqT K H a xs) : SqT K H' a xs := by
  rcases h with (h | ⟨o, h⟩) | h
  · exact .inl (.inl (s.tup _ _ h))
  · exact .inl (.inr ⟨o, s.frz _ _ _ h⟩)
  · exact .inr h
theorem Stb.sqP (s : Stb H H') {a : Addr} {xs : List V} (h : SqP K H a xs) : SqP K H' a xs := ⟨s.sqT h.sq, by
  rcases h.nd with ⟨ob, us, e, d⟩ | h
  · exact .inl ⟨ob, us, s.frz _ _ _ e, d⟩
  · exact .inr h⟩
mutual
theorem Rp.stb (s : Stb H H') : ∀ {d : D} {x : V}, Rp K H d x → Rp K H' d x
  | _, _, .v x => .v x
  | _, _, .t h r => .t (s.sqP h) (Rps.stb s r)
  | _, _, .k h r => .k (h.imp (fun ⟨o, e⟩ => ⟨o, s.frz _ _ _ e⟩) id) (Rps.stb s r)
theorem Rps.stb (s : Stb H H') : ∀ {ds : List D} {xs : List V}, Rps K H ds xs → Rps K H' ds xs
  | _, _, .nil => .nil
  | _, _, .cons r t => .cons (Rp.stb s r) (Rps.stb s t)
end
theorem Rps.length : ∀ {ds : List D} {xs : List V}, Rps K H ds xs → ds.length = xs.length
  | _, _, .nil => rfl
  | _, _, .cons _ t => congrArg Nat.succ (Rps.length t)
theorem Rps.get : ∀ {ds : List D} {xs : List V} {i : Nat} {d : D}, Rps K H ds xs → ds[i]? = some d → ∃ x, xs[i]? = some x ∧ Rp K H d x
  | _, _, _, _, .nil, e => by simp at e
  | _, _, 0, _, .cons r _, e => by simp at e; subst e; exact ⟨_, rfl, r⟩
  | _, _, i + 1, d, .cons r t, e => by
    obtain ⟨u, h1, h2⟩ := Rps.get (i := i) (d := d) t (by simpa using e)
    exact ⟨u, by simpa using h1, h2⟩
theorem Rps.get' : ∀ {ds : List D} {xs : List V} {i : Nat} {x : V}, Rps K H ds xs → xs[i]? = some x → ∃ d, ds[i]? = some d ∧ Rp K H d x
  | _, _, _, _, .nil, e => by simp at e
  | _, _, 0, _, .cons r _, e => by simp at e; subst e; exact ⟨_, rfl, r⟩
  | _, _, i + 1, d, .cons r t, e => by
    obtain ⟨u, h1, h2⟩ := Rps.get' (i := i) (x := d) t (by simpa using e)
    exact ⟨u, by simpa using h1, h2⟩
theorem Rps.append : ∀ {ds es : List D} {xs ys : List V}, Rps K H ds xs → Rps K H es ys → Rps K H (ds ++ es) (xs ++ ys)
  | _, _, _, _, .nil, s => s
  | _, _, _, _, .cons r t, s => .cons r (Rps.append t s)
theorem Rps.take : ∀ {ds : List D} {xs : List V} (n : Nat), Rps K H ds xs → Rps K H (ds.take n) (xs.take n)
  | _, _, 0, _ => .nil
  | _, _, _ + 1, .nil => .nil
  | _, _, n + 1, .cons r t => .cons r (Rps.take n t)
theorem Rps.drop : ∀ {ds : List D} {xs : List V} (n : Nat), Rps K H ds xs → Rps K H (ds.drop n) (xs.drop n)
  | _, _, 0, r => r
  | _, _, _ + 1, .nil => .nil
  | _, _, n + 1, .cons _ t => Rps.drop n t
theorem Rps.set {d : D} {x : V} (r : Rp K H d x) : ∀ {ds : List D} {xs : List V} (i : Nat), Rps K H ds xs → Rps K H (ds.set i d) (xs.set i x)
  | _, _, _, .nil => .nil
  | _, _, 0, .cons _ t => .cons r t
  | _, _, i + 1, .cons q t => .cons q (Rps.set r i t)
theorem Rps.reverse {ds : List D} {xs : List V} (h : Rps K H ds xs) : Rps K H ds.reverse xs.reverse := by
  suffices ∀ {ds : List D} {xs : List V}, Rps K H ds xs → ∀ {es : List D} {ys : List V}, Rps K H es ys → Rps K H (ds.reverse ++ es) (xs.reverse ++ ys) by
    simpa using this h .nil
  intro ds
  induction ds with
  | nil => intro xs h es ys q; cases h; exact q
  | cons d ds ih =>
    intro xs h es ys q
    cases h with
    | cons r t =>
      rw [List.reverse_cons, List.reverse_cons, List.append_assoc, List.append_assoc]
      exact ih t (.cons r q)
theorem Rps.mapV : ∀ {xs : List V}, Rps K H (xs.map D.v) xs
  | [] => .nil
  | _ :: _ => .cons (.v _) Rps.mapV
theorem Rps.ofV : ∀ {ys : List V} {xs : List V}, Rps K H (ys.map D.v) xs → xs = ys
  | [], _, .nil => rfl
  | _ :: _, _, .cons (.v _) t => by rw [Rps.ofV t]
end
structure Gv where
  K : PySem.W.Frag
  mg : Str → Option Value
  w : World
abbrev _root_.L2.Cx.gv (X : Cx) : Gv := ⟨X.K, X.mg, X.w⟩
inductive O where
  | lst (ds : List D)
  /-- a dict with plain keys, one whose keys are tuples (nested) -/
  | dk (kvs : List (Key × D))
  | dn (kvs : List (D × D))
  /-- an instance of the class of that name -/
  | ins (C : Str) (fs : List (Str × D))
abbrev Hd := Addr → Option O
def put (h : Hd) (a : Addr) (o : O) : Hd := fun b => if b = a then some o else h b
theorem put_same {h : Hd} {a : Addr} {o : O} : put h a o a = some o := by unfold put; rw [if_pos rfl]
theorem put_ne {h : Hd} {a b : Addr} {o : O} (n : b ≠ a) : put h a o b = h b := by unfold put; rw [if_neg n]
theorem put_put {h : Hd} {a : Addr} {o u : O} : put (put h a o) a u = put h a u := by
  funext b; unfold put; split <;> rfl
def RpK {κ : Type} (G : Gv) (H : Hp) : List (κ × D) → List (κ × V) → Prop := Paired fun p q => p.1 = q.1 ∧ Rp G.K H p.2 q.2
mutual
/-- a tuple as a key -/
def nkd : D → NestedKey
  | .v (.bl b) => .num (if b = true then 1 else 0)
  | .v (.int i) => .num i
  | .v (.str z) => .text z
  | .t ds => .tup (nkds ds)
  | _ => .none
def nkds : List D → List NestedKey
  | [] => []
  | d :: ds => nkd d :: nkds ds
end
mutual
def nkOk : Nat → D → Bool
  | _, .v .non => true
  | _, .v (.bl _) => true
  | _, .v (.int _) => true
  | _, .v (.str _) => true
  | n + 1, .t ds => nksOk n ds
  | _, _ => false
def nksOk : Nat → List D → Bool
  | _, [] => true
  | n, d :: ds => nkOk n d && nksOk n ds
end
def ndOk (w : World) (a : Addr) (xs : List (NestedKey × Addr × Value)) : Heap → Prop := fun h =>
  ∃ o es ep, h.get? a = some o ∧ o.ExactDict ∧ o.data = .dict es ep ∧ es.toList = xs.map (fun x => (⟨x.1.hash w, .ref x.2.1, x.2.2⟩ : DictEntry)) ∧ (xs.map (·.1)).Nodup
def RpN (G : Gv) (H : Hp) (p : D × D) (q : NestedKey × Addr × Value) : Prop :=
  nkd p.1 = q.1 ∧ nkOk 8 p.1 = true ∧ Rp G.K H p.1 (.ref q.2.1) ∧ ∃ v, RelV v q.2.2 ∧ Rp G.K H p.2 v
def OkO (G : Gv) (H : Hp) (a : Addr) : O → HO → Prop
  | .lst ds, o => ∃ vs, o = .lst vs ∧ Rps G.K H ds vs
  | .dk kvs, o => ∃ vs, o = .dK vs ∧ RpK G H kvs vs
  | .dn kvs, o => kvs.length ≤ sizeLine ∧ (a == sysModules) = false ∧ ∃ xs, o = .ext (ndOk G.w a xs) ∧ Paired (RpN G H) kvs xs
  | .ins C fs, o => ∃ a dx vs, G.mg C = some (.ref a) ∧ o = .ins a dx vs ∧ RpK G H fs vs
theorem RpK.stb {κ : Type} {G : Gv} {H H' : Hp} (s : Stb H H') {kvs : List (κ × D)} {vs : List (κ × V)} (r : RpK G H kvs vs) : RpK G H' kvs vs :=
  Paired.mapP r fun _ _ z => ⟨z.1, z.2.stb s⟩
theorem RpN.stb {G : Gv} {H H' : Hp} (s : Stb H H') {p : D × D} {q : NestedKey × Addr × Value} (r : RpN G H p q) : RpN G H' p q := by
  obtain ⟨h1, h2, h3, v, h4, h5⟩ := r
  exact ⟨h1, h2, h3.stb s, v, h4, h5.stb s⟩
theorem OkO.stb {G : Gv} {H H' : Hp} (s : Stb H H') {a : Addr} : ∀ {o : O} {u : HO}, OkO G H a o u → OkO G H' a o u
  | .lst _, _, ⟨vs, e, r⟩ => ⟨vs, e, r.stb s⟩
  | .dk _, _, ⟨vs, e, r⟩ => ⟨vs, e, r.stb s⟩
  | .dn _, _, ⟨l, n, xs, e, r⟩ => ⟨l, n, xs, e, Paired.mapP r fun _ _ z => z.stb s⟩
  | .ins _ _, _, ⟨a, dx, vs, m, e, r⟩ => ⟨a, dx, vs, m, e, r.stb s⟩
def RelH (G : Gv) (H : Hp) (h : Hd) : Prop := ∀ a o, h a = some o → ∃ u, H a = some u ∧ OkO G H a o u
abbrev Sd := List (Option D)
def RelS (G : Gv) (H : Hp) (σ : Sd) (σV : St) : Prop := σV.length = σ.length ∧ ∀ (i : Nat) (d : D), σ[i]? = some (some d) → ∃ x, σV[i]? = some (some x) ∧ Rp G.K H d x
section
variable {G : Gv} {H H' : Hp} {h h' : Hd} {σ : Sd} {σV : St} {a : Addr} {o : O} {u : HO}
theorem RelH.free (r : RelH G H h) (e : H a = none) : h a = none := by
  cases q : h a with
  | none => rfl
  | some o => obtain ⟨u, e', _⟩ := r a o q; rw [e] at e'; cases e'
theorem RelH.same (r : RelH G H h) (s : ∀ b o, H b = some o → H' b = some o) (st : Stb H H') : RelH G H' h := fun a o e => by
  obtain ⟨u, e', q⟩ := r a o e
  exact ⟨u, s _ _ e', q.stb st⟩
theorem RelH.new (r : RelH G H h) (e : H a = none) (q : OkO G (upd H a u) a o u) : RelH G (upd H a u) (put h a o) := fun b ob eb => by
  by_cases z : b = a
  · subst z; rw [put_same] at eb; cases eb; exact ⟨u, upd_same, q⟩
  · rw [put_ne z] at eb
    obtain ⟨w, e', q'⟩ := r b ob eb
    exact ⟨w, by rw [upd_ne z]; exact e', q'.stb (Stb.new e)⟩
theorem RelH.hid (r : RelH G H h) (e : H a = none) : RelH G (upd H a u) h := r.same (fun b o q => by rw [upd_ne (ne_of_none q e)]; exact q) (Stb.new e)
theorem RelH.set {w : HO} (r : RelH G H h) (e : H a = some w) (m : Mt w) (q : OkO G (upd H a u) a o u) : RelH G (upd H a u) (put h a o) := fun b ob eb => by
  by_cases z : b = a
  · subst z; rw [put_same] at eb; cases eb; exact ⟨u, upd_same, q⟩
  · rw [put_ne z] at eb
    obtain ⟨w', e', q'⟩ := r b ob eb
    exact ⟨w', by rw [upd_ne z]; exact e', q'.stb (Stb.set e m)⟩
theorem RelS.stb (r : RelS G H σ σV) (s : Stb H H') : RelS G H' σ σV := ⟨r.1, fun i d e => by
  obtain ⟨x, e', q⟩ := r.2 i d e
  exact ⟨x, e', q.stb s⟩⟩
theorem RelS.set (r : RelS G H σ σV) {i : Nat} {d : D} {x : V} (q : Rp G.K H d x) : RelS G H (σ.set i (some d)) (σV.set i (some x)) := by
  refine ⟨by rw [List.length_set, List.length_set]; exact r.1, fun j e he => ?_⟩
  by_cases z : i = j
  · subst z
    have hi : i < σ.length := by
      have := (List.getElem?_eq_some_iff.mp he).1
      rwa [List.length_set] at this
    rw [List.getElem?_set_self hi] at he
    cases he
    exact ⟨x, List.getElem?_set_self (by rw [r.1]; exact hi), q⟩
  · rw [List.getElem?_set_ne z] at he
    obtain ⟨y, e', q'⟩ := r.2 j e he
    exact ⟨y, by rw [List.getElem?_set_ne z]; exact e', q'⟩
end
structure Go (G : Gv) (H : Hp) (h : Hd) (H' : Hp) (h' : Hd) : Prop where
  st : Stb H H'
  fr : ∀ a o, H a = some o → h a = none → H' a = some o ∧ h' a = none
  rh : RelH G H' h'
theorem Go.refl {G : Gv} {H : Hp} {h : Hd} (r : RelH G H h) : Go G H h H h := ⟨Stb.refl H, fun _ _ e n => ⟨e, n⟩, r⟩
theorem Go.trans {G : Gv} {H H1 H2 : Hp} {h h1 h2 : Hd} (a : Go G H h H1 h1) (b : Go G H1 h1 H2 h2) : Go G H h H2 h2 :=
  ⟨a.st.trans b.st, fun c o e n => by
    obtain ⟨e1, n1⟩ := a.fr c o e n
    exact b.fr c o e1 n1, b.rh⟩
theorem Go.new {G : Gv} {H : Hp} {h : Hd} {p : Addr} {o : O} {u : HO} (r : RelH G H h) (e : H p = none) (q : OkO G (upd H p u) p o u) : Go G H h (upd H p u) (put h p o) :=
  ⟨Stb.new e, fun a o' e' n => by
    have z := ne_of_none e' e
    exact ⟨by rw [upd_ne z]; exact e', by rw [put_ne z]; exact n⟩, r.new e q⟩
theorem Go.hid {G : Gv} {H : Hp} {h : Hd} {p : Addr} {u : HO} (r : RelH G H h) (e : H p = none) : Go G H h (upd H p u) h :=
  ⟨Stb.new e, fun a o' e' n => ⟨by rw [upd_ne (ne_of_none e' e)]; exact e', n⟩, r.hid e⟩
theorem Go.set {G : Gv} {H : Hp} {h : Hd} {p : Addr} {o o0 : O} {u w : HO} (r : RelH G H h) (k : h p = some o0) (e : H p = some w) (m : Mt w) (q : OkO G (upd H p u) p o u) : Go G H h (upd H p u) (put h p o) :=
  ⟨Stb.set e m, fun a o' e' n => by
    have z : a ≠ p := fun z => by subst z; rw [k] at n; cases n
    exact ⟨by rw [upd_ne z]; exact e', by rw [put_ne z]; exact n⟩, r.set e m q⟩
def Sub (h h' : Hd) : Prop := ∀ a o, h a = some o → h' a = some o
theorem Sub.refl (h : Hd) : Sub h h := fun _ _ e => e
theorem Sub.trans {h h1 h2 : Hd} (a : Sub h h1) (b : Sub h1 h2) : Sub h h2 := fun c o e => b c o (a c o e)
theorem Sub.none {h h' : Hd} (s : Sub h h') {a : Addr} (e : h' a = Option.none) : h a = Option.none := by
  cases q : h a with
  | none => rfl
  | some o => rw [s a o q] at e; cases e
theorem Sub.put {h : Hd} {a : Addr} {o : O} (n : h a = Option.none) : Sub h (put h a o) := fun b u e => by
  have z : b ≠ a := fun z => by subst z; rw [n] at e; cases e
  rw [put_ne z]; exact e
theorem RelH.sub {G : Gv} {H : Hp} {h h' : Hd} (r : RelH G H h') (s : Sub h h') : RelH G H h := fun a o e => r a o (s a o e)
theorem Go.drop {G : Gv} {H H' : Hp} {h h' hs : Hd} (g : Go G H h H' h') (s : Sub hs h') : Go G H h H' hs :=
  ⟨g.st, fun a o e n => ⟨(g.fr a o e n).1, s.none (g.fr a o e n).2⟩, g.rh.sub s⟩
structure Bs where
  H : Hp
  h : Hd
structure R0 (G : Gv) (B : Bs) (σ : Sd) (h : Hd) (σV : St) (H : Hp) : Prop where
  go : Go G B.H B.h H h
  s : RelS G H σ σV
theorem R0.h {G : Gv} {B : Bs} {σ : Sd} {h : Hd} {σV : St} {H : Hp} (r : R0 G B σ h σV H) : RelH G H h := r.go.rh
theorem R0.next {G : Gv} {B : Bs} {H H' : Hp} {σ : Sd} {σV : St} {h h' : Hd} (r : R0 G B σ h σV H) (g : Go G H h H' h') : R0 G B σ h' σV H' := ⟨r.go.trans g, r.s.stb g.st⟩
abbrev KD := D → Hd → Prop
abbrev ED := Sd → Hd → KD → Prop
abbrev TD := Sd → Hd → (Bool → Hd → Prop) → Prop
abbrev AD := Sd → Hd → (List D → Hd → Prop) → Prop
structure EndsD where
  nx : Sd → Hd → Prop
  rt : KD
  bk : Sd → Hd → Prop := fun _ _ => False
  ct : Sd → Hd → Prop := fun _ _ => False
abbrev SD := EndsD → Sd → Hd → Prop
def OutE (G : Gv) (H : Hp) (h : Hd) (Q : KD) (QV : VK) : Prop := ∀ d h' v H', Q d h' → Go G H h H' h' → Rp G.K H' d v → QV v H'
def OutT (G : Gv) (H : Hp) (h : Hd) (Q : Bool → Hd → Prop) (QV : Bool → Hp → Prop) : Prop := ∀ b h' H', Q b h' → Go G H h H' h' → QV b H'
def OutA (G : Gv) (n : Nat) (H : Hp) (h : Hd) (Q : List D → Hd → Prop) (QV : List V → Hp → Prop) : Prop := ∀ ds h' vs H', Q ds h' → Go G H h H' h' → Rps G.K H' ds vs → ds.length = n → QV vs H'
def OutN (G : Gv) (H : Hp) (h : Hd) (Q : Sd → Hd → Prop) (QV : St → Hp → Prop) : Prop := ∀ σ' h' σV' H', Q σ' h' → Go G H h H' h' → RelS G H' σ' σV' → QV σV' H'
structure OutS (G : Gv) (H : Hp) (h : Hd) (D : EndsD) (DV : Ends) : Prop where
  nx : OutN G H h D.nx DV.nx
  rt : OutE G H h D.rt DV.rt
  bk : OutN G H h D.bk DV.bk
  ct : OutN G H h D.ct DV.ct
def lE (G : Gv) (B : Bs) (t : ED) : TE := fun σV H QV => ∃ σ h Q, R0 G B σ h σV H ∧ t σ h Q ∧ OutE G H h Q QV
def lT (G : Gv) (B : Bs) (t : TD) : TT := fun σV H QV => ∃ σ h Q, R0 G B σ h σV H ∧ t σ h Q ∧ OutT G H h Q QV
def lA (G : Gv) (B : Bs) (n : Nat) (t : AD) : TA := fun σV H QV => ∃ σ h Q, R0 G B σ h σV H ∧ t σ h Q ∧ OutA G n H h Q QV
def lS (G : Gv) (B : Bs) (t : SD) : TS := fun DV σV H => ∃ σ h D, R0 G B σ h σV H ∧ t D σ h ∧ OutS G H h D DV
section
variable {G : Gv} {H H' : Hp} {h h' : Hd}
theorem OutE.on {Q : KD} {QV : VK} (o : OutE G H h Q QV) (s : Go G H h H' h') : OutE G H' h' Q QV := fun d h' v H'' q g => o d h' v H'' q (s.trans g)
theorem OutT.on {Q : Bool → Hd → Prop} {QV : Bool → Hp → Prop} (o : OutT G H h Q QV) (s : Go G H h H' h') : OutT G H' h' Q QV := fun d h' H'' q g => o d h' H'' q (s.trans g)
theorem OutA.on {n : Nat} {Q : List D → Hd → Prop} {QV : List V → Hp → Prop} (o : OutA G n H h Q QV) (s : Go G H h H' h') : OutA G n H' h' Q QV := fun d h' v H'' q g => o d h' v H'' q (s.trans g)
theorem OutN.on {Q : Sd → Hd → Prop} {QV : St → Hp → Prop} (o : OutN G H h Q QV) (s : Go G H h H' h') : OutN G H' h' Q QV := fun d h' v H'' q g => o d h' v H'' q (s.trans g)
theorem OutS.on {D : EndsD} {DV : Ends} (o : OutS G H h D DV) (s : Go G H h H' h') : OutS G H' h' D DV := ⟨o.nx.on s, o.rt.on s, o.bk.on s, o.ct.on s⟩
end
def DE (X : Cx) (B : Bs) (e : Expr) (t : ED) : Prop := PE X e (lE X.gv B t)
def DT (X : Cx) (B : Bs) (e : Expr) (t : TD) : Prop := PT X e (lT X.gv B t)
def DW (X : Cx) (B : Bs) (e : Expr) (t : TD) : Prop := PW X e (lT X.gv B t)
def DA (X : Cx) (B : Bs) (es : List Expr) (t : AD) : Prop := PA X es (lA X.gv B es.length t)
def DS (X : Cx) (B : Bs) (st : Stmt) (t : SD) : Prop := PS X st (lS X.gv B t)
def DSs (X : Cx) (B : Bs) (st : List Stmt) (t : SD) : Prop := PSs X st (lS X.gv B t)
theorem PE.imp {X : Cx} {e : Expr} {t t' : TE} (h : PE X e t) (w : ∀ σ H Q, t' σ H Q → t σ H Q) : PE X e t' := ⟨fun pins s σ H Q I q => h.run pins s σ H Q I (w σ H Q q)⟩
theorem PT.imp {X : Cx} {e : Expr} {t t' : TT} (h : PT X e t) (w : ∀ σ H Q, t' σ H Q → t σ H Q) : PT X e t' := ⟨fun pins s σ H Q I q => h.run pins s σ H Q I (w σ H Q q)⟩
theorem PW.imp {X : Cx} {e : Expr} {t t' : TT} (h : PW X e t) (w : ∀ σ H Q, t' σ H Q → t σ H Q) : PW X e t' := ⟨fun wh pins s σ H Q I q => h.run wh pins s σ H Q I (w σ H Q q)⟩
theorem PA.imp {X : Cx} {es : List Expr} {t t' : TA} (h : PA X es t) (w : ∀ σ H Q, t' σ H Q → t σ H Q) : PA X es t' := ⟨fun pos pins s σ H Q I q => h.run pos pins s σ H Q I (w σ H Q q)⟩
theorem PS.imp {X : Cx} {st : Stmt} {t t' : TS} (h : PS X st t) (w : ∀ D σ H, t' D σ H → t D σ H) : PS X st t' := ⟨fun pins s σ H D I q => h.run pins s σ H D I (w D σ H q)⟩
theorem PSs.imp {X : Cx} {st : List Stmt} {t t' : TS} (h : PSs X st t) (w : ∀ D σ H, t' D σ H → t D σ H) : PSs X st t' := ⟨fun pins s σ H D I q => h.run pins s σ H D I (w D σ H q)⟩
def gS : Sd → Nat → Option D
  | [], _ => none
  | x :: _, 0 => x
  | _ :: r, n + 1 => gS r n
def sS : Sd → Nat → D → Sd
  | [], _, _ => []
  | _ :: r, 0, d => some d :: r
  | x :: r, n + 1, d => x :: sS r n d
theorem sS_eq : ∀ (σ : Sd) (i : Nat) (d : D), sS σ i d = σ.set i (some d)
  | [], _, _ => rfl
  | _ :: _, 0, _ => rfl
  | x :: r, n + 1, d => by rw [sS, sS_eq r n d, List.set_cons_succ]
theorem gS_eq : ∀ (σ : Sd) (i : Nat) (d : D), gS σ i = some d → σ[i]? = some (some d)
  | [], _, _, h => by cases h
  | x :: _, 0, d, h => by rw [gS] at h; subst h; rfl
  | _ :: r, n + 1, d, h => by rw [gS] at h; simpa using gS_eq r n d h
def dVar (i : Nat) : ED := fun σ h Q => match gS σ i with
  | some d => Q d h
  | none => False
def dC (d : D) : ED := fun _ h Q => Q d h
section
variable {X : Cx} {B : Bs}
theorem de_var (i : Nat) {x : Str} {pos : Pos} (hN : X.N[i]? = some x := by rfl) (hv : Vis X.env.scope x := by first | exact Or.inl rfl | exact Or.inr (Or.inl rfl) | exact Or.inr (Or.inr rfl)) (hd : (x == ("__debug__" : Str)) = false := by decide)
    (hcd : (x == ("__classdict__" : Str)) = false := by decide) : DE X B (.Name x pos) (dVar i) :=
  PE.imp (pe_var hN hv hd hcd) fun σV H QV ⟨σ, h, Q, r, q, o⟩ => by
    unfold dVar at q
    split at q
    · rename_i d e
      obtain ⟨x, e', rp⟩ := r.s.2 i d (gS_eq _ _ _ e)
      exact ⟨x, e', o d h x H q (Go.refl r.h) rp⟩
    · exact q.elim
theorem de_c {e : Expr} {x : V} (p : PE X e (tC x)) : DE X B e (dC (.v x)) := PE.imp p fun σV H QV ⟨σ, h, Q, r, q, o⟩ => o _ h x H q (Go.refl r.h) (.v x)
theorem de_int {i j pos} : DE X B (.Constant (.int i) j pos) (dC (.v (.int i))) := de_c pe_int
theorem de_bl {b j pos} : DE X B (.Constant (.bool b) j pos) (dC (.v (.bl b))) := de_c pe_bl
theorem de_non {j pos} : DE X B (.Constant .none j pos) (dC (.v .non)) := de_c pe_non
theorem de_str {x j pos} : DE X B (.Constant (.str x) j pos) (dC (.v (.str x))) := de_c pe_str
theorem de_glob {x : Str} {d : D} {v : V} {u : Value} {pos : Pos} (hg : Gl X x) (hm : X.mg x = some u) (r : RelV v u) (rp : ∀ H, Rp X.K H d v) (hd : (x == ("__debug__" : Str)) = false := by decide) : DE X B (.Name x pos) (dC d) :=
  PE.imp (pe_glob hg hm r hd) fun σV H QV ⟨σ, h, Q, r, q, o⟩ => o d h v H q (Go.refl r.h) (rp H)
inductive Bx (p q : Prop) : Type
  | mk
def dIte (c : Prop) [Decidable c] (t u : Prop) (_ : Bx t u) : Prop := if c then t else u
theorem dIte_true {t u : Prop} {b : Bx t u} [Decidable True] : dIte True t u b = t := if_pos trivial
theorem dIte_false {t u : Prop} {b : Bx t u} [Decidable False] : dIte False t u b = u := if_neg id
theorem dIte_pos {c : Prop} [Decidable c] {t u : Prop} {b : Bx t u} (h : c) (q : t) : dIte c t u b := (if_pos h).mpr q
theorem dIte_neg {c : Prop} [Decidable c] {t u : Prop} {b : Bx t u} (h : ¬ c) (q : u) : dIte c t u b := (if_neg h).mpr q
theorem dIte_by {c : Prop} [Decidable c] {t u : Prop} {b : Bx t u} (h : c → t) (h' : ¬ c → u) : dIte c t u b := by
  by_cases hc : c
  · exact dIte_pos hc (h hc)
  · exact dIte_neg hc (h' hc)
inductive BxA (Q : Addr → Prop) : Type
  | mk
def al (h : Hd) (Q : Addr → Prop) (_ : BxA Q) : Prop := ∀ p, h p = none → Q p
abbrev R2d := D → D → Hd → KD → Prop
def l2 (G : Gv) (r : R2d) : R2 := fun xV yV H QV => ∃ x y h Q, Rp G.K H x xV ∧ Rp G.K H y yV ∧ RelH G H h ∧ r x y h Q ∧ OutE G H h Q QV
def DOp (X : Cx) (f : Value → Value → Sem Value) (r : R2d) : Prop := OpR X f (l2 X.gv r)
def d2 (r : R2d) (ta tb : ED) : ED := fun σ h Q => ta σ h fun x h1 => tb σ h1 fun y h2 => r x y h2 Q
theorem l2_of {G : Gv} {r : R2d} {B : Bs} {ta tb : ED} {σV : St} {H : Hp} {QV : VK} (q : lE G B (d2 r ta tb) σV H QV) : tOp (l2 G r) (lE G B ta) (lE G B tb) σV H QV := by
  obtain ⟨σ, h, Q, r0, q, o⟩ := q
  refine ⟨σ, h, _, r0, q, fun x h1 xv H1 q1 g1 rp1 => ?_⟩
  refine ⟨σ, h1, _, r0.next g1, q1, fun y h2 yv H2 q2 g2 rp2 => ?_⟩
  exact ⟨x, y, h2, Q, rp1.stb g2.st, rp2, g2.rh, q2, o.on (g1.trans g2)⟩
variable {a b c : Expr} {ta tb tc : ED} {pos : Pos}
theorem de_op {op : Operator} {r : R2d} (ho : DOp X (binaryOp op) r) (ha : DE X B a ta) (hb : DE X B b tb) : DE X B (.BinOp a op b pos) (d2 r ta tb) :=
  PE.imp (pe_op ho ha hb) fun _ _ _ q => l2_of q
theorem de_cmp {op : CmpOp} {r : R2d} (ho : DOp X (compareOp op) r) (ha : DE X B a ta) (hb : DE X B b tb) (hm : behindInMarks op b = false := by first | exact nomark _ | with_unfolding_all rfl) : DE X B (.Compare a [op] [b] pos) (d2 r ta tb) :=
  PE.imp (pe_cmpR ho ha hb hm) fun _ _ _ q => l2_of q
def dTest (t : ED) : TD := fun σ h Q => t σ h fun d h1 => match d with
  | .v (.bl k) => Q k h1
  | _ => False
theorem outTest {G : Gv} {H : Hp} {h : Hd} {Q : Bool → Hd → Prop} {QV : Bool → Hp → Prop} (o : OutT G H h Q QV) : OutE G H h (fun d h1 => match d with
  | .v (.bl k) => Q k h1
  | _ => False) (fun x H' => ∃ k, x = .bl k ∧ QV k H') := fun d h' v H' q g rp => by
  cases rp with
  | t => exact q.elim
  | k => exact q.elim
  | v =>
    cases v with
    | bl k => exact ⟨k, rfl, o k h' H' q g⟩
    | _ => exact q.elim
theorem dt_cmp {op : CmpOp} {r : R2d} (ho : DOp X (compareOp op) r) (ha : DE X B a ta) (hb : DE X B b tb) (hm : behindInMarks op b = false := by first | exact nomark _ | with_unfolding_all rfl) : DT X B (.Compare a [op] [b] pos) (dTest (d2 r ta tb)) :=
  PT.imp (pt_cmpR ho ha hb hm) fun σV H QV ⟨σ, h, Q, r0, q, o⟩ => l2_of (B := B) ⟨σ, h, _, r0, q, outTest o⟩
theorem dt_val {e : Expr} {t : ED} (h : DE X B e t) (he : ∀ whole, isTrue e X.env whole = (do let v ← whole; standAt e.pos; holding [v] (truthy v)) := by intro _; rfl) : DT X B e (dTest t) :=
  PT.imp (pt_val h he) fun σV H QV ⟨σ, h, Q, r0, q, o⟩ => ⟨σ, h, _, r0, q, outTest o⟩
def d3 (r r' : R2d) (ta tb tc : ED) : ED := fun σ h Q => ta σ h fun x h1 => tb σ h1 fun y h2 => r x y h2 fun z h3 => match z with
  | .v (.bl k) => dIte (k = true) (tc σ h3 fun w h4 => r' y w h4 Q) (Q (.v (.bl false)) h3) .mk
  | _ => False
theorem l3_of {G : Gv} {r r' : R2d} {σV : St} {H : Hp} {QV : VK} (q : lE G B (d3 r r' ta tb tc) σV H QV) : tChain (l2 G r) (l2 G r') (lE G B ta) (lE G B tb) (lE G B tc) σV H QV := by
  obtain ⟨σ, h, Q, r0, q, o⟩ := q
  refine ⟨σ, h, _, r0, q, fun x h1 xv H1 q1 g1 rp1 => ?_⟩
  refine ⟨σ, h1, _, r0.next g1, q1, fun y h2 yv H2 q2 g2 rp2 => ?_⟩
  refine ⟨x, y, h2, _, rp1.stb g2.st, rp2, g2.rh, q2, fun z h3 zv H3 q3 g3 rp3 => ?_⟩
  cases rp3 with
  | t => exact q3.elim
  | k => exact q3.elim
  | v =>
    cases zv with
    | bl k =>
      refine ⟨k, rfl, ?_⟩
      cases k with
      | false => exact iteF (o _ h3 _ H3 (by simpa [dIte] using q3) (g1.trans (g2.trans g3)) (.v _))
      | true =>
        refine iteT ⟨σ, h3, _, r0.next (g1.trans (g2.trans g3)), by simpa [dIte] using q3, fun w h4 wv H4 q4 g4 rp4 => ?_⟩
        exact ⟨y, w, h4, Q, (rp2.stb g3.st).stb g4.st, rp4, g4.rh, q4, o.on (g1.trans (g2.trans (g3.trans g4)))⟩
    | _ => exact q3.elim
theorem dt_chain {op op' : CmpOp} {r r' : R2d} (ho : DOp X (compareOp op) r) (ho' : DOp X (compareOp op') r') (ha : DE X B a ta) (hb : DE X B b tb) (hc : DE X B c tc)
    (hm : lastMarks [op, op'] [b, c] = false := by with_unfolding_all rfl) : DT X B (.Compare a [op, op'] [b, c] pos) (dTest (d3 r r' ta tb tc)) :=
  PT.imp (pt_chain ho ho' ha hb hc hm) fun σV H QV ⟨σ, h, Q, r0, q, o⟩ => l3_of (B := B) ⟨σ, h, _, r0, q, outTest o⟩
variable {uA uB : TD} {rest : List Expr}
def dAnd (t u : TD) : TD := fun σ h Q => t σ h fun c h1 => dIte (c = true) (u σ h1 Q) (Q false h1) .mk
def dOr (t u : TD) : TD := fun σ h Q => t σ h fun c h1 => dIte (c = true) (Q true h1) (u σ h1 Q) .mk
def dNot (t : TD) : TD := fun σ h Q => t σ h fun c h1 => Q (!c) h1
theorem dw_and1 (ha : DT X B a uA) : DW X B (.BoolOp .And [a] pos) uA := pw_and1 ha
theorem dw_or1 (ha : DT X B a uA) : DW X B (.BoolOp .Or [a] pos) uA := pw_or1 ha
theorem dw_and (ha : DT X B a uA) (hb : DW X B (.BoolOp .And (b :: rest) pos) uB) : DW X B (.BoolOp .And (a :: b :: rest) pos) (dAnd uA uB) :=
  PW.imp (pw_and ha hb) fun σV H QV ⟨σ, h, Q, r0, q, o⟩ => ⟨σ, h, _, r0, q, fun c h1 H1 q1 g => by
    cases c with
    | true => exact iteT ⟨σ, h1, Q, r0.next g, (by simpa [dIte] using q1), o.on g⟩
    | false => exact iteF (o _ h1 H1 (by simpa [dIte] using q1) g)⟩
theorem dw_or (ha : DT X B a uA) (hb : DW X B (.BoolOp .Or (b :: rest) pos) uB) : DW X B (.BoolOp .Or (a :: b :: rest) pos) (dOr uA uB) :=
  PW.imp (pw_or ha hb) fun σV H QV ⟨σ, h, Q, r0, q, o⟩ => ⟨σ, h, _, r0, q, fun c h1 H1 q1 g => by
    cases c with
    | true => exact iteT (o _ h1 H1 (by simpa [dIte] using q1) g)
    | false => exact iteF ⟨σ, h1, Q, r0.next g, (by simpa [dIte] using q1), o.on g⟩⟩
theorem DW.dt {e : Expr} {t : TD} (h : DW X B e t) : DT X B e t := PW.pt h
theorem dt_not (ha : DT X B a uA) : DT X B (.UnaryOp .Not a pos) (dNot uA) :=
  PT.imp (pt_not ha) fun σV H QV ⟨σ, h, Q, r0, q, o⟩ => ⟨σ, h, _, r0, q, fun c h1 H1 q1 g => o _ h1 H1 q1 g⟩
def dAndV (ta tb : ED) : ED := fun σ h Q => ta σ h fun d h1 => match d with
  | .v (.bl k) => dIte (k = true) (tb σ h1 Q) (Q (.v (.bl false)) h1) .mk
  | _ => False
def dNotV (ta : ED) : ED := fun σ h Q => ta σ h fun d h1 => match d with
  | .v (.bl k) => Q (.v (.bl (!k))) h1
  | _ => False
theorem de_one {op} {t : ED} (h : DE X B a t) : DE X B (.BoolOp op [a] pos) t := pe_one h
theorem de_and (ha : DE X B a ta) (hb : DE X B (.BoolOp .And (b :: rest) pos) tb) : DE X B (.BoolOp .And (a :: b :: rest) pos) (dAndV ta tb) :=
  PE.imp (pe_and ha hb) fun σV H QV ⟨σ, h, Q, r0, q, o⟩ => ⟨σ, h, _, r0, q, fun d h1 v H1 q1 g rp => by
    cases rp with
    | t => exact q1.elim
    | k => exact q1.elim
    | v =>
      cases v with
      | bl k =>
        refine ⟨k, rfl, ?_⟩
        cases k with
        | true => exact iteT ⟨σ, h1, Q, r0.next g, by simpa [dIte] using q1, o.on g⟩
        | false => exact iteF (o _ h1 _ H1 (by simpa [dIte] using q1) g (.v _))
      | _ => exact q1.elim⟩
theorem de_not (ha : DE X B a ta) : DE X B (.UnaryOp .Not a pos) (dNotV ta) :=
  PE.imp (pe_not ha) fun σV H QV ⟨σ, h, Q, r0, q, o⟩ => ⟨σ, h, _, r0, q, fun d h1 v H1 q1 g rp => by
    cases rp with
    | t => exact q1.elim
    | k => exact q1.elim
    | v =>
      cases v with
      | bl k => exact ⟨k, rfl, o _ h1 _ H1 q1 g (.v _)⟩
      | _ => exact q1.elim⟩
def dIf (t : TD) (ta tb : ED) : ED := fun σ h Q => t σ h fun c h1 => dIte (c = true) (ta σ h1 Q) (tb σ h1 Q) .mk
theorem de_if {c : Expr} (hc : DT X B c uA) (ha : DE X B a ta) (hb : DE X B b tb) : DE X B (.IfExp c a b pos) (dIf uA ta tb) :=
  PE.imp (pe_ifExp hc ha hb) fun σV H QV ⟨σ, h, Q, r0, q, o⟩ => ⟨σ, h, _, r0, q, fun c h1 H1 q1 g => by
    cases c with
    | true => exact iteT ⟨σ, h1, Q, r0.next g, (by simpa [dIte] using q1), o.on g⟩
    | false => exact iteF ⟨σ, h1, Q, r0.next g, (by simpa [dIte] using q1), o.on g⟩⟩
variable {e : Expr} {es : List Expr} {te : ED} {tr : AD}
def dNil : AD := fun _ h Q => Q [] h
def dCons (ta : ED) (tr : AD) : AD := fun σ h Q => ta σ h fun x h1 => tr σ h1 fun xs h2 => Q (x :: xs) h2
theorem da_nil : DA X B [] dNil := PA.imp pa_nil fun σV H QV ⟨σ, h, Q, r0, q, o⟩ => o _ h _ H q (Go.refl r0.h) .nil rfl
theorem da_cons (ha : DE X B e te) (hr : DA X B es tr) (hs : starEach (e :: es) X.env = (false, eval e X.env) :: starEach es X.env := by rfl) : DA X B (e :: es) (dCons te tr) :=
  PA.imp (pa_cons ha hr hs) fun σV H QV ⟨σ, h, Q, r0, q, o⟩ => ⟨σ, h, _, r0, q, fun x h1 xv H1 q1 g1 rp1 => ⟨σ, h1, _, r0.next g1, q1, fun xs h2 vs H2 q2 g2 rp2 n2 =>
    o _ h2 _ H2 q2 (g1.trans g2) (.cons (rp1.stb g2.st) rp2) (congrArg Nat.succ n2)⟩⟩
def dTup (t : AD) : ED := fun σ h Q => t σ h fun xs h1 => Q (.t xs) h1
def dLst (t : AD) : ED := fun σ h Q => t σ h fun xs h1 => al h1 (fun p => Q (.v (.ref p)) (put h1 p (.lst xs))) .mk
def tTupP (t : TA) : TE := fun σ H Q => t σ H fun xs H1 => xs.length ≤ sizeLine ∧ ∀ (p : Addr) (ob : Obj), ob.dict = none → H1 p = none → Q (.ref p) (upd H1 p (.frz ob (.tup xs)))
theorem pe_tupP {x1} {tv : TA} (h : PA X es tv) : PE X (.Tuple es x1 pos) (tTupP tv) := by
  refine ⟨fun pins s σ H Q I hq => ?_⟩
  refine wpAny_Tuple_spliced (thn (h.run pos pins s σ H _ I hq) fun us s1 ⟨xs, H1, I1, r, z, q⟩ => ⟨by rw [← r.length]; exact z, ?_⟩)
  have hf : H1 s1.heap.objs.size = none := I1.hok.fresh (Nat.le_refl _)
  refine ⟨.ref s1.heap.objs.size, upd H1 s1.heap.objs.size (.frz { cls := .type "tuple", data := .seq us.toArray } (.tup xs)), I1.laid (t' := s1.toks) (fun b u e => Heap.get?_push_of_some _ e) (Nat.le_refl _) ?_, rfl, q _ _ rfl hf⟩
  exact ⟨Heap.get?_push_size _ rfl, z, us, r, ⟨_, Heap.get?_push_size _ rfl, rfl, _, rfl⟩⟩
theorem de_tup {x1} (h : DA X B es tr) (hl : es.length ≤ sizeLine := by decide) : DE X B (.Tuple es x1 pos) (dTup tr) :=
  PE.imp (pe_tupP h) fun σV H QV ⟨σ, h, Q, r0, q, o⟩ => ⟨σ, h, _, r0, q, fun xs h1 vs H1 q1 g1 rp1 n1 =>
    ⟨by rw [← rp1.length, n1]; exact hl, fun p ob ed hp => o _ h1 _ _ q1 (g1.trans (Go.hid g1.rh hp)) (.t (SqP.new ed) (rp1.stb (Stb.new hp)))⟩⟩
theorem de_lst (h : DA X B es tr) (hl : es.length ≤ sizeLine := by decide) : DE X B (.List es pos) (dLst tr) :=
  PE.imp (pe_lst h) fun σV H QV ⟨σ, h, Q, r0, q, o⟩ => ⟨σ, h, _, r0, q, fun xs h1 vs H1 q1 g1 rp1 n1 =>
    ⟨by rw [← rp1.length, n1]; exact hl, fun p hp => o _ _ _ _ (q1 p (g1.rh.free hp)) (g1.trans (Go.new g1.rh hp ⟨vs, rfl, rp1.stb (Stb.new hp)⟩)) (.v _)⟩⟩
variable {st : Stmt} {sts : List Stmt} {t u : SD}
def dNext : SD := fun D σ h => D.nx σ h
def wN (D : EndsD) (n : Sd → Hd → Prop) : EndsD := { D with nx := n }
def wL (D : EndsD) (n : Sd → Hd → Prop) : EndsD := { D with nx := n, ct := n, bk := D.nx }
theorem wN_nx {D : EndsD} {n : Sd → Hd → Prop} : (wN D n).nx = n := rfl
theorem wN_rt {D : EndsD} {n : Sd → Hd → Prop} : (wN D n).rt = D.rt := rfl
theorem wN_bk {D : EndsD} {n : Sd → Hd → Prop} : (wN D n).bk = D.bk := rfl
theorem wN_ct {D : EndsD} {n : Sd → Hd → Prop} : (wN D n).ct = D.ct := rfl
theorem wL_nx {D : EndsD} {n : Sd → Hd → Prop} : (wL D n).nx = n := rfl
theorem wL_rt {D : EndsD} {n : Sd → Hd → Prop} : (wL D n).rt = D.rt := rfl
theorem wL_bk {D : EndsD} {n : Sd → Hd → Prop} : (wL D n).bk = D.nx := rfl
theorem wL_ct {D : EndsD} {n : Sd → Hd → Prop} : (wL D n).ct = n := rfl
def dSeq (t u : SD) : SD := fun D σ h => t (wN D (u D)) σ h
theorem ds_nil : DSs X B [] dNext := PSs.imp pss_nil fun DV σV H ⟨σ, h, D, r0, q, o⟩ => o.nx _ _ _ _ q (Go.refl r0.h) r0.s
theorem ds_cons (h1 : DS X B st t) (h2 : DSs X B sts u) : DSs X B (st :: sts) (dSeq t u) :=
  PSs.imp (pss_cons h1 h2) fun DV σV H ⟨σ, h, D, r0, q, o⟩ => ⟨σ, h, _, r0, q, ⟨fun σ' h' σV' H' q' g' r' => ⟨σ', h', D, ⟨r0.go.trans g', r'⟩, q', o.on g'⟩, o.rt, o.bk, o.ct⟩⟩
theorem ds_one (h1 : DS X B st t) : DSs X B [st] t := pss_one h1
def dDrop (te : ED) : SD := fun D σ h => te σ h fun _ h1 => D.nx σ h1
theorem ds_expr (he : DE X B e te) (hs : swapsWith e none pos.line X.env = pure false := by rfl) : DS X B (.Expr e pos) (dDrop te) :=
  PS.imp (ps_expr he hs) fun DV σV H ⟨σ, h, D, r0, q, o⟩ => ⟨σ, h, _, r0, q, fun d h1 v H1 q1 g rp => o.nx _ _ _ _ q1 g (r0.next g).s⟩
def dRet (te : ED) : SD := fun D σ h => te σ h D.rt
theorem ds_ret (he : DE X B e te) : DS X B (.Return (some e) pos) (dRet te) :=
  PS.imp (ps_ret he) fun DV σV H ⟨σ, h, D, r0, q, o⟩ => ⟨σ, h, _, r0, q, o.rt⟩
def dIfS (c : TD) (t u : SD) : SD := fun D σ h => c σ h fun b h1 => dIte (b = true) (t D σ h1) (u D σ h1) .mk
theorem ds_if {c : Expr} {sa sb : List Stmt} (hc : DT X B c uA) (ha : DSs X B sa t) (hb : DSs X B sb u) : DS X B (.If c sa sb pos) (dIfS uA t u) :=
  PS.imp (ps_if hc ha hb) fun DV σV H ⟨σ, h, D, r0, q, o⟩ => ⟨σ, h, _, r0, q, fun b h1 H1 q1 g => by
    cases b with
    | true => exact iteT ⟨σ, h1, D, r0.next g, (by simpa [dIte] using q1), o.on g⟩
    | false => exact iteF ⟨σ, h1, D, r0.next g, (by simpa [dIte] using q1), o.on g⟩⟩
end
abbrev GD := D → Sd → Hd → (Sd → Hd → Prop) → Prop
def lG (G : Gv) (B : Bs) (g : GD) : TG := fun x σV H QV => ∃ d σ h Q, Rp G.K H d x ∧ R0 G B σ h σV H ∧ g d σ h Q ∧ OutN G H h Q QV
def DG (X : Cx) (B : Bs) (tg : Expr) (g : GD) : Prop := PG X tg (lG X.gv B g)
theorem PG.imp {X : Cx} {e : Expr} {t t' : TG} (h : PG X e t) (w : ∀ v σ H Q, t' v σ H Q → t v σ H Q) : PG X e t' := ⟨fun pins s σ H v u Q I r q => h.run pins s σ H v u Q I r (w v σ H Q q)⟩
theorem PGs.imp {X : Cx} {e : List Expr} {t t' : TGs} (h : PGs X e t) (w : ∀ v σ H Q, t' v σ H Q → t v σ H Q) : PGs X e t' := ⟨fun pins s σ H v u Q I r q => h.run pins s σ H v u Q I r (w v σ H Q q)⟩
section
variable {X : Cx} {B : Bs} {pos : Pos}
def nG (i : Nat) : GD := fun d σ h Q => Q (sS σ i d) h
theorem dg_name {i : Nat} {x : Str} (hN : X.N.Nodup) (hi : X.N[i]? = some x := by rfl) (hx : Loc X.env.scope x := by first | exact Or.inl rfl | exact Or.inr rfl) (hf : X.fn x = true ∨ X.env.scope.names.lookup x = some .local := by first | exact .inl rfl | exact .inr rfl | assumption) : DG X B (.Name x pos) (nG i) :=
  PG.imp (pg_name hN hi hx hf) fun v σV H QV ⟨d, σ, h, Q, rp, r0, q, o⟩ => o _ _ _ _ q (Go.refl r0.h) (by rw [sS_eq]; exact r0.s.set rp)
abbrev SetD := D → D → D → Hd → (Hd → Prop) → Prop
def lSet (G : Gv) (t : SetD) : TSet := fun oV iV vV H QV => ∃ o i v h Q, Rp G.K H o oV ∧ Rp G.K H i iV ∧ Rp G.K H v vV ∧ RelH G H h ∧ t o i v h Q ∧ ∀ h' H', Q h' → Go G H h H' h' → QV H'
def DSet (X : Cx) (t : SetD) : Prop := PSet X (lSet X.gv t)
def subG (to ti : ED) (t : SetD) : GD := fun d σ h Q => to σ h fun o h1 => ti σ h1 fun i h2 => t o i d h2 fun h3 => Q σ h3
theorem dg_sub {o i : Expr} {to ti : ED} {t : SetD} (ho : DE X B o to) (hi : DE X B i ti) (hs : DSet X t)
    (ha : ∀ v, assign (.Subscript o i pos) X.env v = (do
      let ov ← holding [v] (eval o X.env)
      let iv ← holding [v, ov] (eval i X.env)
      standAt pos
      holding [v, ov, iv] (setItem ov iv v)
      release [v, ov, iv] []) := by intro _; rfl) : DG X B (.Subscript o i pos) (subG to ti t) :=
  PG.imp (pg_sub ho hi hs ha) fun v σV H QV ⟨d, σ, h, Q, rp, r0, q, out⟩ =>
    ⟨σ, h, _, r0, q, fun od h1 ov H1 q1 g1 rp1 => ⟨σ, h1, _, r0.next g1, q1, fun id h2 iv H2 q2 g2 rp2 =>
      ⟨od, id, d, h2, _, rp1.stb g2.st, rp2, rp.stb (g1.trans g2).st, g2.rh, q2, fun h3 H3 q3 g3 => out σ h3 σV H3 q3 (g1.trans (g2.trans g3)) (r0.next (g1.trans (g2.trans g3))).s⟩⟩⟩
def dAsg (te : ED) (g : GD) : SD := fun D σ h => te σ h fun x h1 => g x σ h1 D.nx
theorem ds_asg {tg e : Expr} {te : ED} {g : GD} (he : DE X B e te) (hg : DG X B tg g) (hs : swapsWithSole [tg] e pos.line X.env = pure false := by rfl) (hw : swappedStores [tg] e X.env = pure none := by rfl)
    (h1 : (assignEach [tg] X.env).map (·.2) = [assign tg X.env] := by rfl) : DS X B (.Assign [tg] e pos) (dAsg te g) :=
  PS.imp (ps_asg he hg hs hw h1) fun DV σV H ⟨σ, h, D, r0, q, o⟩ => ⟨σ, h, _, r0, q, fun d h1 v H1 q1 g rp => ⟨d, σ, h1, _, rp, r0.next g, q1, o.nx.on g⟩⟩
theorem ds_set {i : Nat} {x : Str} {e : Expr} {te : ED} {pos' : Pos} (hN : X.N.Nodup) (he : DE X B e te) (hi : X.N[i]? = some x := by rfl) (hx : Loc X.env.scope x := by first | exact Or.inl rfl | exact Or.inr rfl) (hs : swapsWith e (some (.Name x pos')) pos.line X.env = pure false := by rfl) (hf : X.fn x = true ∨ X.env.scope.names.lookup x = some .local := by first | exact .inl rfl | exact .inr rfl | assumption) :
    DS X B (.Assign [.Name x pos'] e pos) (dAsg te (nG i)) :=
  PS.imp (ps_set hN hi hx he hs hf) fun DV σV H ⟨σ, h, D, r0, q, o⟩ => ⟨σ, h, _, r0, q, fun d h1 v H1 q1 g rp => o.nx _ _ _ _ q1 g (by rw [sS_eq]; exact (r0.next g).s.set rp)⟩
end
end DL
namespace DL
open PySem L2
structure XD where
  cls : Str
  fs : List (Str × D)
def RelX (G : Gv) (H : Hp) (x : XD) (cls : Value) (d : Option Addr) : Prop :=
  G.mg x.cls = some cls ∧ ((x.fs = [] ∧ d = none) ∨ ∃ dd vs, d = some dd ∧ H dd = some (.xd vs) ∧ RpK G H x.fs vs)
def OutX (G : Gv) (H : Hp) (h : Hd) (E : XD → Hd → Prop) (EV : XK) : Prop := ∀ x h' cls d H', E x h' → Go G H h H' h' → RelX G H' x cls d → EV cls d H'
abbrev SpD := List D → Hd → KD → (XD → Hd → Prop) → Prop
def lSp (G : Gv) (sp : SpD) : Sp := fun vs HV QV EV => ∃ ds h Q E, Rps G.K HV ds vs ∧ RelH G HV h ∧ sp ds h Q E ∧ OutE G HV h Q QV ∧ OutX G HV h E EV
abbrev FnD (P : Program) (w : World) (K : PySem.W.Frag) (mg : Str → Option Value) (base : Heap) (k : Nat) (f : Addr) (fd : FuncData) (ps : List Str) (sp : SpD) : Prop :=
  FnOk P w K mg base (L2.CX P w) k f fd ps (lSp ⟨K, mg, w⟩ sp)
abbrev ER := XD → Sd → Hd → Prop
def RegE (G : Gv) (B : Bs) (E : ER) (W : WX) : Prop := ∀ x σ h cls d σV H, E x σ h → R0 G B σ h σV H → RelX G H x cls d → W cls d σV H
structure Rg (X : Cx) (B : Bs) (E : ER) : Prop where
  calm : X.calm = true
  po : PassesOwn (model X.prog X.w) X.A X.env X.xe
  tk : ∃ W, Takes X W ∧ RegE X.gv B E W
abbrev E0d : ER := fun _ _ _ => False
theorem Rg.none {X : Cx} {B : Bs} (c : X.calm = true) (po : PassesOwn (model X.prog X.w) X.A X.env X.xe) : Rg X B E0d := ⟨c, po, _, takes0, fun _ _ _ _ _ _ _ h _ _ => h⟩
section
variable {X : Cx} {B : Bs} {E : ER} {k : Nat} {f : Addr} {fd : FuncData} {ps : List Str} {sp : SpD} {x m : Str} {p pos apos : Pos} {e o : Expr} {es : List Expr} {t : AD} {to : ED}
inductive BxK (Q : KD) (E : XD → Hd → Prop) : Type
  | mk
def cl (sp : SpD) (ds : List D) (h : Hd) (Q : KD) (E : XD → Hd → Prop) (_ : BxK Q E) : Prop := sp ds h Q E
def dCall (sp : SpD) (E : ER) (t : AD) : ED := fun σ h Q => t σ h fun ds h1 => cl sp ds h1 Q (fun x h2 => E x σ h2) .mk
theorem lSp_of {G : Gv} {W : WX} (rg : RegE G B E W) {σ : Sd} {h : Hd} {σV : St} {H : Hp} {ds : List D} {vs : List V} {Q : KD} {QV : VK} (r0 : R0 G B σ h σV H) (rp : Rps G.K H ds vs)
    (q : sp ds h Q fun x h2 => E x σ h2) (o : OutE G H h Q QV) : lSp G sp vs H QV (WE W σV) :=
  ⟨ds, h, Q, _, rp, r0.h, q, o, fun x h' cls d H' ex g rx => rg x σ h' cls d σV H' ex (r0.next g) rx⟩
theorem de_call (F : FnD X.prog X.w X.K X.mg X.base k f fd ps sp) (hr : Room k X.A) (rg : Rg X B E) (hm : X.mg x = some (.ref f)) (hk : PySem.W.keepIn X.K (.ref f) = true) (hb : Binds X.K fd ps [])
    (ha : DA X B (e :: es) t) (hg : Gl X x := by rfl) (hdb : (x == ("__debug__" : Str)) = false := by decide) (he : starEach (e :: es) X.env = (false, eval e X.env) :: starEach es X.env := by rfl) (hpl : (backTo pos (starEach es X.env)).any (·.1) = false := by rfl) :
    DE X B (.Call (.Name x p) (e :: es) [] pos) (dCall sp E t) := by
  obtain ⟨W, tk, re⟩ := rg.tk
  exact PE.imp (pe_callS F hr hg hm hk hb (fun σ => passAt tk σ) ha hdb he hpl) fun σV H QV ⟨σ, h, Q, r0, q, o⟩ => ⟨σ, h, _, r0, q, fun ds h1 vs H1 q1 g1 rp1 _ => lSp_of re (r0.next g1) rp1 q1 (o.on g1)⟩
def startD (N : List Str) (ds : List D) : Sd := ds.map some ++ List.replicate (N.length - ds.length) none
theorem relS_start {G : Gv} {H : Hp} {N : List Str} {ds : List D} {vs : List V} (r : Rps G.K H ds vs) : RelS G H (startD N ds) (L2.start N vs) := by
  have hl := r.length
  refine ⟨by unfold startD L2.start; simp [hl], fun i d e => ?_⟩
  unfold startD at e
  by_cases hi : i < ds.length
  · rw [List.getElem?_append_left (by simpa using hi), List.getElem?_map] at e
    cases q : ds[i]? with
    | none => rw [q] at e; cases e
    | some d' =>
      rw [q] at e; cases e
      obtain ⟨x, ex, rp⟩ := r.get q
      refine ⟨x, ?_, rp⟩
      unfold L2.start
      rw [List.getElem?_append_left (by rw [List.length_map, ← hl]; exact hi), List.getElem?_map, ex]
      rfl
  · rw [List.getElem?_append_right (by simpa using hi), List.getElem?_replicate] at e
    split at e <;> cases e
def fin (Q : KD) : EndsD := { nx := fun _ h' => ∃ hs, Sub hs h' ∧ Q (.v .non) hs, rt := fun d h' => ∃ hs, Sub hs h' ∧ Q d hs }
variable {P : Program} {w : World} {K : PySem.W.Frag} {mg : Str → Option Value} {base : Heap}
theorem fn_d {nm qual : Str} {stm : Stmt} {N : List Str} (F : Fun K nm qual stm f fd) (S : FnScope N ps (defScope stm)) (len : ∀ ds h Q E, sp ds h Q E → ds.length = ps.length) (rd : ER → SD)
    (der : ∀ (cdv : Value) (A : Around) (outer : List Env) (s : Shared) (H : Hp) (EV : XK) (B : Bs) (E : ER), Rg (cxOf (L2.CX P w) P w K mg base N qual (defScope stm) f cdv A outer s H EV) B E → Room k (A.deeper (PyProof.Rows.envOfC qual (defScope stm) s.heap.objs.size f cdv)) →
      DSs (cxOf (L2.CX P w) P w K mg base N qual (defScope stm) f cdv A outer s H EV) B (defBody stm) (rd E))
    (ok : ∀ ds h Q E, sp ds h Q E → rd (fun x _ h' => E x h') (fin Q) (startD N ds) h) : FnD P w K mg base (k + 1) f fd ps sp := by
  refine F.okX S (fun vs H Q E h => ?_) (fun cdv A outer s H vs QV EV hr h => ?_)
  · obtain ⟨ds, h, Q', E', rp, _, q, _⟩ := h
    rw [← rp.length]
    exact len _ _ _ _ q
  · obtain ⟨ds, h, Q, E, rp, rh, q, oQ, oE⟩ := h
    refine ⟨_, der cdv A outer s H EV ⟨H, h⟩ (fun x _ h' => E x h') ⟨rfl, passes_of rfl, _, takes_of rfl rfl rfl rfl, fun x σ h' cls d σV H' ex r0 rx => oE x h' cls d H' ex r0.go rx⟩ hr, ?_⟩
    refine ⟨startD N ds, h, _, ⟨Go.refl rh, relS_start rp⟩, ok ds h Q E q, ⟨fun σ' h' σV' H' ⟨hs, su, q'⟩ g _ => ?_, fun d h' v H' ⟨hs, su, q'⟩ g r => ?_, fun _ _ _ _ q' _ _ => q'.elim, fun _ _ _ _ q' _ _ => q'.elim⟩⟩
    · exact oQ _ hs _ H' q' (g.drop su) (.v _)
    · exact oQ d hs v H' q' (g.drop su) r
structure Df (K : PySem.W.Frag) (mg : Str → Option Value) (x : Str) (st : Stmt) (ps : List Str) : Prop where
  ex : ∃ f fd, Fun K x x st f fd ∧ mg x = some (.ref f) ∧ Binds K fd ps []
structure Fd (P : Program) (w : World) (K : PySem.W.Frag) (mg : Str → Option Value) (base : Heap) (x : Str) (k : Nat) (ps : List Str) (sp : SpD) : Prop where
  ex : ∃ f fd, FnD P w K mg base k f fd ps sp ∧ mg x = some (.ref f) ∧ PySem.W.keepIn K (.ref f) = true ∧ Binds K fd ps []
theorem Fd.of {nm : Str} {stm : Stmt} {N : List Str} (D : Df K mg nm stm ps) (S : FnScope N ps (defScope stm)) (len : ∀ ds h Q E, sp ds h Q E → ds.length = ps.length) (rd : ER → SD)
    (der : ∀ (f : Addr) (cdv : Value) (A : Around) (outer : List Env) (s : Shared) (H : Hp) (EV : XK) (B : Bs) (E : ER), Rg (cxOf (L2.CX P w) P w K mg base N nm (defScope stm) f cdv A outer s H EV) B E → Room k (A.deeper (PyProof.Rows.envOfC nm (defScope stm) s.heap.objs.size f cdv)) →
      DSs (cxOf (L2.CX P w) P w K mg base N nm (defScope stm) f cdv A outer s H EV) B (defBody stm) (rd E))
    (ok : ∀ ds h Q E, sp ds h Q E → rd (fun x _ h' => E x h') (fin Q) (startD N ds) h) : Fd P w K mg base nm (k + 1) ps sp := by
  obtain ⟨f, fd, F, m, b⟩ := D.ex
  exact ⟨f, fd, fn_d F S len rd (der f) ok, m, F.kp, b⟩
theorem Fd.never {nm : Str} {stm : Stmt} (D : Df K mg nm stm ps) : Fd P w K mg base nm 0 ps (fun _ _ _ _ => False) := by
  obtain ⟨f, fd, F, m, b⟩ := D.ex
  exact ⟨f, fd, ⟨fun _ _ _ _ ⟨_, _, _, _, _, _, h, _⟩ => h.elim, fun _ _ _ _ _ _ _ _ _ _ _ _ _ ⟨_, _, _, _, _, _, h, _⟩ => h.elim⟩, m, F.kp, b⟩
theorem Fd.imp {nm : Str} {sp' : SpD} {j : Nat} (F : Fd P w K mg base nm j ps sp) (hj : j ≤ k) (h : ∀ ds h Q E, sp' ds h Q E → sp ds h Q E) : Fd P w K mg base nm k ps sp' := by
  obtain ⟨f, fd, F, m, kp, b⟩ := F.ex
  exact ⟨f, fd, (F.mono hj).imp fun vs H Q E ⟨ds, hh, Q', E', a1, a2, a3, a4, a5⟩ => ⟨ds, hh, Q', E', a1, a2, h _ _ _ _ a3, a4, a5⟩, m, kp, b⟩
end
section
variable {X : Cx} {B : Bs} {E : ER} {k j : Nat} {ps : List Str} {sp : SpD} {x : Str} {p pos : Pos} {e : Expr} {es : List Expr} {t : AD}
theorem de_callF (C : Fd X.prog X.w X.K X.mg X.base x j ps sp) (hr : Room k X.A) (rg : Rg X B E) (ha : DA X B (e :: es) t) (hj : j ≤ k := by decide) (hg : Gl X x := by rfl) (hdb : (x == ("__debug__" : Str)) = false := by decide)
    (he : starEach (e :: es) X.env = (false, eval e X.env) :: starEach es X.env := by rfl) (hpl : (backTo pos (starEach es X.env)).any (·.1) = false := by rfl) : DE X B (.Call (.Name x p) (e :: es) [] pos) (dCall sp E t) := by
  obtain ⟨f, fd, F, m, kp, b⟩ := C.ex
  exact de_call F (hr.mono hj) rg m kp b ha hg hdb he hpl
end
abbrev ID := Sd → Hd → (List D → (Hd → Prop) → Hd → Prop) → Prop
structure ItOk (G : Gv) (J : It) (items : List D) (chk : Hd → Prop) (H1 : Hp) : Prop where
  go : ∀ i H h, Stb H1 H → RelH G H h → chk h → i < items.length → J.go i H
  stop : ∀ i H h, Stb H1 H → RelH G H h → chk h → items.length ≤ i → J.stop i H
  yld : ∀ i H h x H', Stb H1 H → RelH G H h → chk h → i < items.length → J.yld i H x H' → ∃ d, items[i]? = some d ∧ Rp G.K H' d x ∧ Go G H h H' h
def lI (G : Gv) (B : Bs) (t : ID) : TI := fun σV H RV => ∃ σ h R, R0 G B σ h σV H ∧ t σ h R ∧ ∀ items chk h' H' J, R items chk h' → Go G H h H' h' → ItOk G J items chk H' → RV J H'
def DI (X : Cx) (B : Bs) (tg iter : Expr) (t : ID) : Prop := PI X tg iter (lI X.gv B t)
theorem PI.imp {X : Cx} {tg iter : Expr} {t t' : TI} (h : PI X tg iter t) (w : ∀ σ H Q, t' σ H Q → t σ H Q) : PI X tg iter t' := ⟨fun pins s σ H R I q => h.run pins s σ H R I (w σ H R q)⟩
def dLoop (g : GD) (body : SD) (chk : Hd → Prop) : List D → SD
  | [] => fun D σ h => chk h ∧ D.nx σ h
  | x :: xs => fun D σ h => chk h ∧ g x σ h fun σ2 h2 => body (wL D (dLoop g body chk xs D)) σ2 h2
def dFor (wi : ID) (g : GD) (body : SD) : SD := fun D σ h => wi σ h fun items chk h1 => dLoop g body chk items D σ h1
section
variable {X : Cx} {B : Bs} {E : ER}
theorem ds_for {tg iter : Expr} {body : List Stmt} {wi : ID} {g : GD} {tb : SD} {pos : Pos} (rg : Rg X B E) (hi : DI X B tg iter wi) (hg : DG X B tg g) (hb : DSs X B body tb)
    (hs : ∀ x, foldedSetIterable iter X.env x = pure x := by intro _; rfl) : DS X B (.For tg iter body [] pos) (dFor wi g tb) :=
  PS.imp (ps_for rg.po rg.calm hi hg hb hs) fun DV σV H ⟨σ, h, D, r0, q, o⟩ => ⟨σ, h, _, r0, q, fun items chk h1 H1 J q1 g1 jo => by
    refine ⟨fun i m σV' H' => ∃ σ' h', Go X.gv H1 h1 H' h' ∧ RelS X.gv H' σ' σV' ∧ m = items.length - i ∧ i ≤ items.length ∧ dLoop g tb chk (items.drop i) D σ' h', ⟨items.length, σ, h1, Go.refl g1.rh, r0.s.stb g1.st, by simp, Nat.zero_le _, by simpa using q1⟩, ?_⟩
    rintro i m σV' H' ⟨σ', h', g2, rs, rfl, hi, ql⟩
    by_cases hlt : i < items.length
    · rw [List.drop_eq_getElem_cons hlt] at ql
      obtain ⟨hc, ql⟩ := ql
      refine .inr ⟨jo.go i H' h' g2.st g2.rh hc hlt, fun σV2 H2 => ∃ σ2 h2, Go X.gv H1 h1 H2 h2 ∧ RelS X.gv H2 σ2 σV2 ∧ dLoop g tb chk (items.drop (i + 1)) D σ2 h2, fun σV2 H2 ⟨σ2, h2, g3, rs3, q3⟩ => ⟨items.length - (i + 1), by omega, σ2, h2, g3, rs3, rfl, hlt, q3⟩, fun x H3 y => ?_⟩
      obtain ⟨d, ed, rd, g3⟩ := jo.yld i H' h' x H3 g2.st g2.rh hc hlt y
      rw [List.getElem?_eq_getElem hlt] at ed
      cases ed
      have g13 := g2.trans g3
      refine ⟨_, σ', h', _, rd, ⟨(r0.go.trans g1).trans g13, rs.stb g3.st⟩, ql, fun σ4 h4 σV4 H4 q4 g4 r4 => ?_⟩
      have g14 := g13.trans g4
      refine ⟨σ4, h4, _, ⟨(r0.go.trans g1).trans g14, r4⟩, q4, ⟨fun σ5 h5 σV5 H5 q5 g5 r5 => ⟨σ5, h5, g14.trans g5, r5, q5⟩, (o.on (g1.trans g14)).rt, (o.on (g1.trans g14)).nx, fun σ5 h5 σV5 H5 q5 g5 r5 => ⟨σ5, h5, g14.trans g5, r5, q5⟩⟩⟩
    · rw [List.drop_eq_nil_of_le (by omega)] at ql
      obtain ⟨hc, ql⟩ := ql
      exact .inl ⟨jo.stop i H' h' g2.st g2.rh hc (by omega), o.nx σ' h' σV' H' ql (g1.trans g2) rs⟩⟩
def uS : Sd → Nat → Sd
  | [], _ => []
  | _ :: r, 0 => none :: r
  | x :: r, n + 1 => x :: uS r n
theorem uS_eq : ∀ (σ : Sd) (i : Nat), uS σ i = σ.set i none
  | [], _ => rfl
  | _ :: _, 0 => rfl
  | x :: r, n + 1 => by rw [uS, uS_eq r n, List.set_cons_succ]
def wD (σ : Sd) : List Nat → Sd
  | [] => σ
  | v :: vs => uS (wD σ vs) v
theorem relS_wipe {G : Gv} {H : Hp} {σ : Sd} {σV : St} (r : RelS G H σ σV) : ∀ vs : List Nat, RelS G H (wD σ vs) (wipe σV vs)
  | [] => r
  | v :: vs => by
    have ih := relS_wipe r vs
    refine ⟨by rw [wD, wipe, uS_eq, List.length_set, List.length_set]; exact ih.1, fun i d e => ?_⟩
    rw [wD, uS_eq] at e
    by_cases z : v = i
    · subst z
      by_cases hl : v < (wD σ vs).length
      · rw [List.getElem?_set_self hl] at e; cases e
      · rw [List.getElem?_eq_none (by simpa using hl)] at e; cases e
    · rw [List.getElem?_set_ne z] at e
      obtain ⟨x, ex, rp⟩ := ih.2 i d e
      exact ⟨x, by rw [wipe, List.getElem?_set_ne z]; exact ex, rp⟩
structure GW (G : Gv) (gV : TG) (g : GD) (vs : List Nat) : Prop where
  run : ∀ d x σ h σV H Q QV, Rp G.K H d x → RelS G H σ σV → g d σ h Q → (∀ σ' σV', Q σ' h → RelS G H σ' σV' → wipe σV' vs = wipe σV vs → QV σV' H) → gV x σV H QV
theorem wipe_set {σ : St} {i : Nat} {x : Option V} : ∀ {vs : List Nat}, i ∈ vs → wipe (σ.set i x) vs = wipe σ vs
  | v :: vs, hm => by
    rw [wipe, wipe]
    by_cases hi : i ∈ vs
    · rw [wipe_set hi]
    · have e : i = v := by
        rcases List.mem_cons.mp hm with e | e
        · exact e
        · exact (hi e).elim
      subst e
      have : ∀ vs : List Nat, i ∉ vs → wipe (σ.set i x) vs = (wipe σ vs).set i x := by
        intro vs
        induction vs with
        | nil => intro _; rfl
        | cons u us ih =>
          intro hn
          simp only [List.mem_cons, not_or] at hn
          rw [wipe, wipe, ih hn.2, List.set_comm _ _ (hn.1)]
      rw [this vs hi, List.set_set]
theorem gw_name {G : Gv} {i : Nat} {vs : List Nat} (hi : i ∈ vs := by decide) : GW G (gName i) (nG i) vs := ⟨fun d x σ h σV H Q QV rp rs q k => k _ _ q (by rw [sS_eq]; exact rs.set rp) (wipe_set hi)⟩
def DTs (X : Cx) (B : Bs) (ifs : List Expr) (t : TD) : Prop := PTs X ifs (lT X.gv B t)
def dYes : TD := fun _ h Q => Q true h
theorem dts_nil : DTs X B [] dYes := ⟨fun pins s σV H QV I ⟨σ, h, Q, r0, q, o⟩ => pts_nil.run pins s σV H QV I (o true h H q (Go.refl r0.h))⟩
theorem dts_one {c : Expr} {t : TD} (h : DT X B c t) : DTs X B [c] t := pts_one h
def dComp (g : GD) (tt : TD) (te : ED) (chk : Hd → Prop) : List D → List D → Sd → Hd → (List D → Hd → Prop) → Prop
  | [], acc, _, h, Q => chk h ∧ Q acc h
  | x :: xs, acc, σ, h, Q => chk h ∧ g x σ h fun σ2 h2 => tt σ2 h2 fun b h3 => dIte (b = true) (te σ2 h3 fun y h4 => acc.length < sizeLine ∧ dComp g tt te chk xs (acc ++ [y]) σ h4 Q) (dComp g tt te chk xs acc σ h3 Q) .mk
inductive BxC (Q : List D → Hd → Prop) : Type
  | mk
def cmp (g : GD) (tt : TD) (te : ED) (chk : Hd → Prop) (items : List D) (σ : Sd) (h : Hd) (Q : List D → Hd → Prop) (_ : BxC Q) : Prop := dComp g tt te chk items [] σ h Q
def dLc (wi : ID) (g : GD) (tt : TD) (te : ED) (vs : List Nat) : ED := fun σ h Q => wi σ h fun items chk h1 => cmp g tt te chk items (wD σ vs) h1 (fun ys h2 => ∀ p, h2 p = none → Q (.v (.ref p)) (put h2 p (.lst ys))) .mk
theorem set_unset (σ : St) (i j : Nat) : (σ.set i none).set j none = (σ.set j none).set i none := by
  by_cases h : i = j
  · subst h; rfl
  · exact List.set_comm _ _ h
theorem wipe_wipe (σ : St) : ∀ vs : List Nat, wipe (wipe σ vs) vs = wipe σ vs := by
  have push : ∀ (us : List Nat) (σ : St) (i : Nat), wipe (σ.set i none) us = (wipe σ us).set i none := by
    intro us
    induction us with
    | nil => intro _ _; rfl
    | cons u us ih => intro σ i; rw [wipe, wipe, ih, set_unset]
  intro vs
  induction vs with
  | nil => rfl
  | cons v vs ih =>
    rw [wipe]
    rw [show wipe σ (v :: vs) = (wipe σ vs).set v none from rfl, push, ih, List.set_set]
theorem lc_of {wi : ID} {gV : TG} {g : GD} {tt : TD} {te : ED} {vs : List Nat} {G : Gv} {σV : St} {H : Hp} {QV : VK} (gw : GW G gV g vs) (q : lE G B (dLc wi g tt te vs) σV H QV) : tLc (lI G B wi) gV (lT G B tt) (lE G B te) vs σV H QV := by
  obtain ⟨σ, h, Q, r0, q, o⟩ := q
  refine ⟨σ, h, _, r0, q, fun items chk h1 H1 J q1 g1 jo D hD => ?_⟩
  have hD1 : h1 D = none := g1.rh.free hD
  refine ⟨fun i m H' => ∃ h' acc accV, Go G H1 h1 H' h' ∧ h' D = none ∧ H' D = some (.lst accV) ∧ Rps G.K H' acc accV ∧ m = items.length - i ∧ i ≤ items.length ∧ dComp g tt te chk (items.drop i) acc (wD σ vs) h' (fun ys h2 => ∀ p, h2 p = none → Q (.v (.ref p)) (put h2 p (.lst ys))),
    ⟨items.length, h1, [], [], Go.hid g1.rh hD, hD1, upd_same, .nil, by simp, Nat.zero_le _, by simpa [cmp] using q1⟩, ?_⟩
  rintro i m H' ⟨h', acc, accV, g12, nD, eD, ra, rfl, hi, ql⟩
  by_cases hlt : i < items.length
  · rw [List.drop_eq_getElem_cons hlt] at ql
    obtain ⟨hc, ql⟩ := ql
    refine .inr ⟨jo.go i H' h' g12.st g12.rh hc hlt, fun H2 => ∃ h2 acc2 accV2, Go G H1 h1 H2 h2 ∧ h2 D = none ∧ H2 D = some (.lst accV2) ∧ Rps G.K H2 acc2 accV2 ∧ dComp g tt te chk (items.drop (i + 1)) acc2 (wD σ vs) h2 (fun ys h2 => ∀ p, h2 p = none → Q (.v (.ref p)) (put h2 p (.lst ys))),
      fun H2 ⟨h2, acc2, accV2, a1, a2, a3, a4, a5⟩ => ⟨items.length - (i + 1), by omega, h2, acc2, accV2, a1, a2, a3, a4, rfl, hlt, a5⟩, fun x H3 y => ?_⟩
    obtain ⟨d, ed, rd, g3⟩ := jo.yld i H' h' x H3 g12.st g12.rh hc hlt y
    rw [List.getElem?_eq_getElem hlt] at ed
    cases ed
    have g03 : Go G H h H3 h' := g1.trans (g12.trans g3)
    have rw3 : RelS G H3 (wD σ vs) (wipe σV vs) := relS_wipe (r0.s.stb g03.st) vs
    refine gw.run _ x (wD σ vs) h' _ H3 _ _ rd rw3 ql fun σ4 σV4 q4 r4 w4 => ⟨w4.trans (wipe_wipe σV vs), ?_⟩
    refine ⟨σ4, h', _, ⟨r0.go.trans g03, r4⟩, q4, fun b h5 H5 q5 g5 => ?_⟩
    have g25 : Go G H' h' H5 h5 := g3.trans g5
    have fD5 := g25.fr D _ eD nD
    cases b with
    | false =>
      refine iteF ⟨h5, acc, accV, g12.trans g25, fD5.2, fD5.1, ra.stb g25.st, (by simpa [dIte] using q5)⟩
    | true =>
      refine iteT ⟨σ4, h5, _, ⟨r0.go.trans (g03.trans g5), r4.stb g5.st⟩, (by simpa [dIte] using q5), fun yd h6 yv H6 q6 g6 r6 => ?_⟩
      have g26 := g25.trans g6
      have fD6 := g26.fr D _ eD nD
      refine ⟨accV, fD6.1, by rw [← ra.length]; exact q6.1, h6, acc ++ [yd], accV ++ [yv], ?_, fD6.2, upd_same, ?_, q6.2⟩
      · have g16 := g12.trans g26
        refine ⟨g16.st.trans (Stb.set fD6.1 trivial), fun a o' e' n => ?_, fun b o' e' => ?_⟩
        · have z : a ≠ D := ne_of_none e' hD
          exact ⟨by rw [upd_ne z]; exact (g16.fr a o' e' n).1, (g16.fr a o' e' n).2⟩
        · have z : b ≠ D := fun z => by rw [z, fD6.2] at e'; cases e'
          obtain ⟨u, eu, ou⟩ := g26.rh b o' e'
          exact ⟨u, by rw [upd_ne z]; exact eu, ou.stb (Stb.set fD6.1 trivial)⟩
      · exact ((ra.stb g26.st).append (.cons r6 .nil)).stb (Stb.set fD6.1 trivial)
  · rw [List.drop_eq_nil_of_le (by omega)] at ql
    obtain ⟨hc, ql⟩ := ql
    have g02 := g1.trans g12
    refine .inl ⟨jo.stop i H' h' g12.st g12.rh hc (by omega), o _ _ _ H' (ql D nD) ⟨g02.st, fun a o' e' n => ?_, fun b o' e' => ?_⟩ (.v _)⟩
    · have z : a ≠ D := ne_of_none (g1.fr a o' e' n).1 hD
      exact ⟨(g02.fr a o' e' n).1, by rw [put_ne z]; exact (g02.fr a o' e' n).2⟩
    · by_cases z : b = D
      · subst z
        rw [put_same] at e'; cases e'
        exact ⟨_, eD, accV, rfl, ra⟩
      · rw [put_ne z] at e'
        exact g02.rh b o' e'
theorem de_lc {elt tg iter : Expr} {ifs : List Expr} {scope : Scope} {own : List (Str × Nat)} {pos : Pos} {wi : ID} {gV : TG} {g : GD} {tt : TD} {te : ED} (rg : Rg X B E) (hN : X.N.Nodup) (hi : DI X B tg iter wi) (ok : BlkOk X.N X.env.scope scope own)
    (hg : ∀ (s : Shared) (H : Hp) (C : Addr) (cl : List (Str × Addr)) (fp : List Addr), PG (X.blk s H scope (compEnvC scope cl C X.env) fp) tg gV) (gw : GW X.gv gV g (own.map (·.2)))
    (ht : ∀ (s : Shared) (H : Hp) (C : Addr) (cl : List (Str × Addr)) (fp : List Addr), DTs (X.blk s H scope (compEnvC scope cl C X.env) fp) B ifs tt)
    (he : ∀ (s : Shared) (H : Hp) (C : Addr) (cl : List (Str × Addr)) (fp : List Addr), DE (X.blk s H scope (compEnvC scope cl C X.env) fp) B elt te) (hs : ∀ x, foldedSetIterable iter X.env x = pure x := by intro _; rfl) :
    DE X B (.ListComp elt [⟨tg, iter, ifs, 0⟩] scope pos) (dLc wi g tt te (own.map (·.2))) :=
  PE.imp (pe_lc (tt := lT X.gv B tt) (te := lE X.gv B te) rg.calm hN hi ok hg ht he hs) fun σV H QV q => lc_of gw q
theorem ds_setLc {i : Nat} {y : Str} {py : Pos} {elt tg iter : Expr} {ifs : List Expr} {scope : Scope} {own : List (Str × Nat)} {pos spos : Pos} {wi : ID} {gV : TG} {g : GD} {tt : TD} {te : ED} (rg : Rg X B E) (hN : X.N.Nodup) (hy : X.N[i]? = some y) (hyl : X.env.scope.names.lookup y = some .local)
    (hsw : swapsWith (.ListComp elt [⟨tg, iter, ifs, 0⟩] scope pos) (some (.Name y py)) spos.line X.env = pure true) (hi : DI X B tg iter wi) (ok : BlkOk X.N X.env.scope scope own)
    (hg : ∀ (s : Shared) (H : Hp) (C : Addr) (cl : List (Str × Addr)) (fp : List Addr), PG (X.blk s H scope (compEnvC scope cl C X.env) fp) tg gV) (gw : GW X.gv gV g (own.map (·.2)))
    (ht : ∀ (s : Shared) (H : Hp) (C : Addr) (cl : List (Str × Addr)) (fp : List Addr), DTs (X.blk s H scope (compEnvC scope cl C X.env) fp) B ifs tt)
    (he : ∀ (s : Shared) (H : Hp) (C : Addr) (cl : List (Str × Addr)) (fp : List Addr), DE (X.blk s H scope (compEnvC scope cl C X.env) fp) B elt te) (hs : ∀ x, foldedSetIterable iter X.env x = pure x := by intro _; rfl) :
    DS X B (.Assign [.Name y py] (.ListComp elt [⟨tg, iter, ifs, 0⟩] scope pos) spos) (dAsg (dLc wi g tt te (own.map (·.2))) (nG i)) :=
  PS.imp (ps_setLc (tt := lT X.gv B tt) (te := lE X.gv B te) rg.calm hN hy hyl hsw hi ok hg ht he hs) fun DV σV H ⟨σ, h, D, r0, q, o⟩ => lc_of (B := B) gw ⟨σ, h, _, r0, q, fun d h1 v H1 q1 g rp => o.nx _ _ _ _ q1 g (by rw [sS_eq]; exact (r0.next g).s.set rp)⟩
end
end DL
namespace DL
open PySem L2
def rdL (h : Hd) (a : Addr) : Option (List D) := match h a with
  | some (.lst xs) => some xs
  | _ => none
theorem rdL_ok {G : Gv} {H : Hp} {h : Hd} {a : Addr} {xs : List D} (r : RelH G H h) (e : rdL h a = some xs) : ∃ vs, SqL G.K H a vs ∧ Rps G.K H xs vs := by
  unfold rdL at e
  split at e
  · rename_i ys q
    cases e
    obtain ⟨u, hu, vs, rfl, rp⟩ := r a _ q
    exact ⟨vs, SqL.of hu, rp⟩
  · cases e
theorem lst_ok {G : Gv} {H : Hp} {h : Hd} {a : Addr} {xs : List D} (r : RelH G H h) (e : h a = some (.lst xs)) : ∃ vs, H a = some (.lst vs) ∧ Rps G.K H xs vs := by
  obtain ⟨u, hu, vs, rfl, rp⟩ := r a _ e
  exact ⟨vs, hu, rp⟩
section
variable {X : Cx} {B : Bs} {E : ER} {tg : Expr}
def iAny (K : PySem.W.Frag) (tl : TE) : TI := fun σ H R => tl σ H fun x H1 => (∃ a, x = .ref a ∧ (∃ xs, SqL K H1 a xs) ∧ R (Itl K a) H1) ∨ (∃ a, x = .ref a ∧ (∃ xs, SqT K H1 a xs) ∧ R (Itt K a) H1) ∨ ∃ z, x = .str z ∧ R (Its z) H1
theorem pi_any {l : Expr} {tl : TE} (hl : PE X l tl) : PI X tg l (iAny X.K tl) := by
  refine ⟨fun pins s σ H R I h => ?_⟩
  refine thn (hl.run pins s σ H _ I h) fun v s1 ⟨x, H1, I1, r1, q1⟩ => ?_
  rcases q1 with ⟨a, e, ⟨xs, hq⟩, q⟩ | ⟨a, e, ⟨xs, hq⟩, q⟩ | ⟨z, e, q⟩
  · subst e
    cases r1
    obtain ⟨its, rv, p, hz⟩ := I1.list hq
    refine PySem.wpAny_pyIter_list p.isList ?_
    refine ⟨s1.heap.objs.size, [s1.heap.objs.size], _, _, H1, rfl, I1.kept (t' := s1.toks) fun b o e => Heap.get?_push_of_some _ e, turn_list a _, ⟨_, Heap.get?_push_size _ rfl, rfl, rfl⟩, fun b hb => ?_, q⟩
    have e : b = s1.heap.objs.size := by simpa using hb
    subst e
    exact I1.fpOk (Nat.le_refl _) (I1.hok.fresh (Nat.le_refl _))
  · subst e
    cases r1
    obtain ⟨its, rv, p, hz⟩ := I1.tuple hq
    refine PySem.wpAny_pyIter_tuple (show s1.heap.IsTuple a its.toArray from p) ?_
    refine ⟨s1.heap.objs.size, [s1.heap.objs.size], _, _, H1, rfl, I1.kept (t' := s1.toks) fun b o e => Heap.get?_push_of_some _ e, turn_tuple a _, ⟨_, Heap.get?_push_size _ rfl, rfl, rfl⟩, fun b hb => ?_, q⟩
    have e : b = s1.heap.objs.size := by simpa using hb
    subst e
    exact I1.fpOk (Nat.le_refl _) (I1.hok.fresh (Nat.le_refl _))
  · subst e
    obtain ⟨t, rfl⟩ := r1
    cases ha : z.cps.all (· < 128)
    · exact PySem.wpAny_pyIter_wide ha (pi_one (tk := s1.toks) I1 _ (turn_str _ z t "str_iterator" (.inr rfl)) ⟨_, Heap.get?_push_size _ rfl, rfl, rfl⟩ q)
    · exact PySem.wpAny_pyIter_ascii ha (pi_one (tk := s1.toks) I1 _ (turn_str _ z t "str_ascii_iterator" (.inl rfl)) ⟨_, Heap.get?_push_size _ rfl, rfl, rfl⟩ q)
def chars (z : Str) : List D := z.cps.toList.map fun c => .v (.str ⟨#[c]⟩)
def iAnyD (te : ED) : ID := fun σ h R => te σ h fun d h1 => match d with
  | .t ds => R ds (fun _ => True) h1
  | .k ds => R ds (fun _ => True) h1
  | .v (.str z) => R (chars z) (fun _ => True) h1
  | .v (.ref a) => match rdL h1 a with
    | some xs => R xs (fun h' => rdL h' a = some xs) h1
    | none => False
  | _ => False
theorem it_tup {G : Gv} {H : Hp} {a : Addr} {ds : List D} {vs : List V} (sq : SqT G.K H a vs) (r : Rps G.K H ds vs) : ItOk G (Itt G.K a) ds (fun _ => True) H where
  go := fun i H' h st rh _ hi => by
    obtain ⟨x, ex, _⟩ := r.get (List.getElem?_eq_getElem hi)
    exact ⟨vs, x, st.sqT sq, ex⟩
  stop := fun i H' h st rh _ hi => ⟨vs, st.sqT sq, by rw [← r.length]; exact hi⟩
  yld := fun i H' h x H2 st rh _ hi y => by
    obtain ⟨rfl, y⟩ := y
    obtain ⟨d, ed, rd⟩ := (r.stb st).get' (y vs (st.sqT sq))
    exact ⟨d, ed, rd, Go.refl rh⟩
theorem SqF.stb {K : PySem.W.Frag} {H H' : Hp} (s : Stb H H') {a : Addr} {xs : List V} (h : SqF K H a xs) : SqF K H' a xs := h.imp (fun ⟨o, e⟩ => ⟨o, s.frz _ _ _ e⟩) id
theorem it_frz {G : Gv} {H : Hp} {a : Addr} {ds : List D} {vs : List V} (sq : SqF G.K H a vs) (r : Rps G.K H ds vs) : ItOk G (Itl G.K a) ds (fun _ => True) H where
  go := fun i H' h st rh _ hi => by
    obtain ⟨x, ex, _⟩ := r.get (List.getElem?_eq_getElem hi)
    exact ⟨vs, x, (sq.stb st).sq, ex⟩
  stop := fun i H' h st rh _ hi => ⟨vs, (sq.stb st).sq, by rw [← r.length]; exact hi⟩
  yld := fun i H' h x H2 st rh _ hi y => by
    obtain ⟨rfl, y⟩ := y
    obtain ⟨d, ed, rd⟩ := (r.stb st).get' (y vs (sq.stb st).sq)
    exact ⟨d, ed, rd, Go.refl rh⟩
theorem it_str {G : Gv} {H : Hp} {z : Str} : ItOk G (Its z) (chars z) (fun _ => True) H where
  go := fun i H' h st rh _ hi => by
    show i < z.cps.size
    simpa [chars] using hi
  stop := fun i H' h st rh _ hi => by
    show z.cps.size ≤ i
    simpa [chars] using hi
  yld := fun i H' h x H2 st rh _ hi y => by
    obtain ⟨rfl, c, ec, rfl⟩ := y
    refine ⟨.v (.str ⟨#[c]⟩), ?_, .v _, Go.refl rh⟩
    unfold chars
    rw [List.getElem?_map, Array.getElem?_toList, ec]
    rfl
theorem it_lst {G : Gv} {H : Hp} {a : Addr} {xs : List D} : ItOk G (Itl G.K a) xs (fun h' => rdL h' a = some xs) H where
  go := fun i H' h st rh hc hi => by
    obtain ⟨vs, sq, r⟩ := rdL_ok rh hc
    obtain ⟨x, ex, _⟩ := r.get (List.getElem?_eq_getElem hi)
    exact ⟨vs, x, sq, ex⟩
  stop := fun i H' h st rh hc hi => by
    obtain ⟨vs, sq, r⟩ := rdL_ok rh hc
    exact ⟨vs, sq, by rw [← r.length]; exact hi⟩
  yld := fun i H' h x H2 st rh hc hi y => by
    obtain ⟨rfl, y⟩ := y
    obtain ⟨vs, sq, r⟩ := rdL_ok rh hc
    obtain ⟨d, ed, rd⟩ := r.get' (y vs sq)
    exact ⟨d, ed, rd, Go.refl rh⟩
theorem di_any {l : Expr} {te : ED} (hl : DE X B l te) : DI X B tg l (iAnyD te) :=
  PI.imp (pi_any hl) fun σV H RV ⟨σ, h, R, r0, q, o⟩ => ⟨σ, h, _, r0, q, fun d h1 v H1 q1 g1 rp => by
    cases rp with
    | t sq r => exact .inr (.inl ⟨_, rfl, ⟨_, sq.sq⟩, o _ _ h1 H1 _ q1 g1 (it_tup sq r)⟩)
    | k sq r => exact .inl ⟨_, rfl, ⟨_, sq.sq⟩, o _ _ h1 H1 _ q1 g1 (it_frz sq r)⟩
    | v =>
      cases v with
      | str z => exact .inr (.inr ⟨z, rfl, o _ _ h1 H1 _ q1 g1 it_str⟩)
      | ref a =>
        revert q1
        show (match rdL h1 a with
          | some xs => R xs (fun h' => rdL h' a = some xs) h1
          | none => False) → _
        intro q1
        split at q1
        · rename_i xs e
          obtain ⟨vs, sq, r⟩ := rdL_ok g1.rh e
          exact .inl ⟨a, rfl, ⟨vs, sq⟩, o _ _ h1 H1 _ q1 g1 it_lst⟩
        · exact q1.elim
      | _ => exact q1.elim⟩
def rangeD (lo : Int) (n : Nat) : List D := (List.range n).map fun (i : Nat) => .v (.int (lo + (i : Int)))
theorem it_range {G : Gv} {H : Hp} {lo : Int} {n : Nat} : ItOk G (Itr lo n) (rangeD lo n) (fun _ => True) H where
  go := fun i H' h st rh _ hi => by
    show i < n
    simpa [rangeD] using hi
  stop := fun i H' h st rh _ hi => by
    show n ≤ i
    simpa [rangeD] using hi
  yld := fun i H' h x H2 st rh _ hi y => by
    obtain ⟨rfl, rfl⟩ := y
    have hi' : i < n := by simpa [rangeD] using hi
    exact ⟨.v (.int (lo + i)), by simp [rangeD, hi'], .v _, Go.refl rh⟩
def iRng1D (ta : AD) : ID := fun σ h R => ta σ h fun ds h1 => match ds with
  | [.v (.int j)] => (-4611686018427387904 ≤ j ∧ j < 4611686018427387904) ∧ R (rangeD 0 j.toNat) (fun _ => True) h1
  | _ => False
def iRng2D (ta : AD) : ID := fun σ h R => ta σ h fun ds h1 => match ds with
  | [.v (.int i), .v (.int j)] => (-4611686018427387904 ≤ i ∧ i < 4611686018427387904 ∧ -4611686018427387904 ≤ j ∧ j < 4611686018427387904) ∧ R (rangeD i (j - i).toNat) (fun _ => True) h1
  | _ => False
theorem di_range1 {a : Expr} {ta : AD} {p pos : Pos} (hm : X.mg "range" = none) (ha : DA X B [a] ta) (hg : Gl X "range" := by rfl) (hs : starEach [a] X.env = [(false, eval a X.env)] := by rfl) : DI X B tg (.Call (.Name "range" p) [a] [] pos) (iRng1D ta) :=
  PI.imp (pi_range1 hg hm ha hs) fun σV H RV ⟨σ, h, R, r0, q, o⟩ => ⟨σ, h, _, r0, q, fun ds h1 vs H1 q1 g1 rp _ => by
    split at q1
    · cases rp with
      | cons r1 r2 =>
        cases r1
        cases r2
        exact ⟨_, rfl, q1.1.1, q1.1.2, o _ _ h1 H1 _ q1.2 g1 it_range⟩
    · exact q1.elim⟩
theorem di_range2 {a b : Expr} {ta : AD} {p pos : Pos} (hm : X.mg "range" = none) (ha : DA X B [a, b] ta) (hg : Gl X "range" := by rfl) (hs : starEach [a, b] X.env = [(false, eval a X.env), (false, eval b X.env)] := by rfl) (hs2 : starEach [b] X.env = [(false, eval b X.env)] := by rfl) :
    DI X B tg (.Call (.Name "range" p) [a, b] [] pos) (iRng2D ta) :=
  PI.imp (pi_range2 hg hm ha hs hs2) fun σV H RV ⟨σ, h, R, r0, q, o⟩ => ⟨σ, h, _, r0, q, fun ds h1 vs H1 q1 g1 rp _ => by
    split at q1
    · cases rp with
      | cons r1 r2 =>
        cases r2 with
        | cons r2 r3 =>
          cases r1
          cases r2
          cases r3
          exact ⟨_, _, rfl, q1.1, o _ _ h1 H1 _ q1.2 g1 it_range⟩
    · exact q1.elim⟩
end
end DL
namespace DL
open PySem L2
theorem dop_of {X : Cx} {f : Value → Value → Sem Value} {r : R2} {rd : R2d} (ho : OpR X f r) (w : ∀ x y H Q, l2 X.gv rd x y H Q → r x y H Q) : DOp X f rd := fun pins s σ H x y v u Q I rx ry h => ho pins s σ H x y v u Q I rx ry (w x y H Q h)
def mulOk (i j : Int) : Prop := CMul i j ∨ CMulW i j
def divOk (j : Int) : Prop := 0 < j ∧ j.natAbs.log2 < 9000
def powOk (i j : Int) : Prop := CPow i j
def pAdd : R2d := fun x y h Q => match x, y with
  | .v (.int i), .v (.int j) => Q (.v (.int (i + j))) h
  | .v (.str a), .v (.str b) => a.length + b.length ≤ sizeLine ∧ Q (.v (.str (a ++ b))) h
  | .t a, .t b => a.length + b.length ≤ sizeLine ∧ Q (.t (a ++ b)) h
  | .v (.ref a), .v (.ref b) => match h a, h b with
    | some (.lst xs), some (.lst ys) => xs.length + ys.length ≤ sizeLine ∧ al h (fun p => Q (.v (.ref p)) (put h p (.lst (xs ++ ys)))) .mk
    | _, _ => False
  | _, _ => False
def pSub : R2d := fun x y h Q => match x, y with
  | .v (.int i), .v (.int j) => Q (.v (.int (i - j))) h
  | _, _ => False
def pMul : R2d := fun x y h Q => match x, y with
  | .v (.int i), .v (.int j) => mulOk i j ∧ Q (.v (.int (i * j))) h
  | _, _ => False
def pFdv : R2d := fun x y h Q => match x, y with
  | .v (.int i), .v (.int j) => divOk j ∧ Q (.v (.int (i / j))) h
  | _, _ => False
def pMod : R2d := fun x y h Q => match x, y with
  | .v (.int i), .v (.int j) => 0 < j ∧ Q (.v (.int (i % j))) h
  | _, _ => False
def pPow : R2d := fun x y h Q => match x, y with
  | .v (.int i), .v (.int j) => powOk i j ∧ Q (.v (.int (i ^ j.toNat))) h
  | _, _ => False
section
variable {X : Cx}
theorem op_mulG : OpR X (binaryOp .Mult) (rI mulOk fun i j => .int (i * j)) := opI fun _ _ _ _ _ _ _ hc q => PyProof.Rows.mul_int q (hc.elim CMul.ok CMulW.ok)
def rCatP (K : PySem.W.Frag) : R2 := fun x y H Q => ∃ a b xs ys, x = .ref a ∧ y = .ref b ∧ SqT K H a xs ∧ SqT K H b ys ∧ xs.length + ys.length ≤ sizeLine ∧
  (xs = [] → Q (.ref b) H) ∧ (xs ≠ [] → ys = [] → Q (.ref a) H) ∧ (xs ≠ [] → ys ≠ [] → ∀ (p : Addr) (ob : Obj), ob.dict = none → H p = none → Q (.ref p) (upd H p (.frz ob (.tup (xs ++ ys)))))
theorem op_catP : OpR X (binaryOp .Add) (rCatP X.K) := by
  intro pins s σ H x y v u Q I rx ry h
  obtain ⟨a, b, xs, ys, rfl, rfl, ha, hb, hz, q0, q1, q2⟩ := h
  cases rx
  cases ry
  obtain ⟨its, r1, p1, _⟩ := I.tuple ha
  obtain ⟨its2, r2, p2, _⟩ := I.tuple hb
  by_cases hx : xs = []
  · subst hx
    cases r1
    exact cat_tup0 p1 p2 ⟨.ref b, H, I, rfl, q0 rfl⟩
  refine HT.cat_tup p1 p2 (fun z => hx (r1.nil_iff.mp z)) (fun z => ⟨.ref a, H, I, rfl, q1 hx (r2.nil_iff.mp z)⟩) (fun z => ?_) (by rw [← r1.length, ← r2.length]; exact hz)
  refine ⟨.ref s.heap.objs.size, _, I.laid (t' := s.toks) (o := .frz { cls := .type "tuple", data := .seq (its ++ its2).toArray } (.tup (xs ++ ys))) (fun b ob q => Heap.get?_push_of_some _ q) (Nat.le_refl _) ?_, rfl, q2 hx (fun w => z (r2.nil_iff.mpr w)) _ _ rfl (I.hok.fresh (Nat.le_refl _))⟩
  exact ⟨by first | exact Heap.get?_push_size _ rfl | (simp; exact Heap.get?_push_size _ rfl), by rw [List.length_append]; exact hz, _, r1.append r2, PyProof.Rows.IsTup.new _ _⟩
theorem do_add : DOp X (binaryOp .Add) pAdd := dop_of (OpR.or op_add (OpR.or op_add_str (OpR.or op_catP op_cat))) fun x y H Q ⟨dx, dy, h, Qd, rx, ry, rh, q, o⟩ => by
  unfold pAdd at q
  split at q
  · cases rx; cases ry
    exact .inl ⟨_, _, rfl, rfl, o _ h _ H q (Go.refl rh) (.v _)⟩
  · cases rx; cases ry
    exact .inr (.inl ⟨_, _, rfl, rfl, q.1, o _ h _ H q.2 (Go.refl rh) (.v _)⟩)
  · rename_i ds es
    cases rx with
    | t sa ra =>
      cases ry with
      | t sb rb =>
        have rab := ra.append rb
        refine .inr (.inr (.inl ⟨_, _, _, _, rfl, rfl, sa.sq, sb.sq, by rw [← ra.length, ← rb.length]; exact q.1, fun e => ?_, fun n e => ?_, fun n n' p ob ed hp => ?_⟩))
        · subst e
          cases ra
          exact o _ h _ H q.2 (Go.refl rh) (.t sb rb)
        · subst e
          cases rb
          refine o _ h _ H q.2 (Go.refl rh) ?_
          rw [List.append_nil]
          exact .t sa ra
        · exact o _ h _ _ q.2 (Go.hid rh hp) (.t (SqP.new ed) (rab.stb (Stb.new hp)))
  · split at q
    · rename_i a b _ _ xs ys ea eb
      cases rx; cases ry
      obtain ⟨vs, hv, rv⟩ := lst_ok rh ea
      obtain ⟨ws, hw, rw'⟩ := lst_ok rh eb
      exact .inr (.inr (.inr ⟨a, b, vs, ws, rfl, rfl, hv, hw, by rw [← rv.length, ← rw'.length]; exact q.1, fun p hp => o _ _ _ _ (q.2 p (rh.free hp)) (Go.new rh hp ⟨_, rfl, (rv.append rw').stb (Stb.new hp)⟩) (.v _)⟩))
    · exact q.elim
  · exact q.elim
theorem do_sub : DOp X (binaryOp .Sub) pSub := dop_of op_sub fun x y H Q ⟨dx, dy, h, Qd, rx, ry, rh, q, o⟩ => by
  unfold pSub at q
  split at q
  · cases rx; cases ry
    exact ⟨_, _, rfl, rfl, o _ h _ H q (Go.refl rh) (.v _)⟩
  · exact q.elim
theorem do_mul : DOp X (binaryOp .Mult) pMul := dop_of op_mulG fun x y H Q ⟨dx, dy, h, Qd, rx, ry, rh, q, o⟩ => by
  unfold pMul at q
  split at q
  · cases rx; cases ry
    exact ⟨_, _, rfl, rfl, q.1, o _ h _ H q.2 (Go.refl rh) (.v _)⟩
  · exact q.elim
theorem do_fdv : DOp X (binaryOp .FloorDiv) pFdv := dop_of op_fdivW fun x y H Q ⟨dx, dy, h, Qd, rx, ry, rh, q, o⟩ => by
  unfold pFdv at q
  split at q
  · cases rx; cases ry
    exact ⟨_, _, rfl, rfl, q.1, o _ h _ H q.2 (Go.refl rh) (.v _)⟩
  · exact q.elim
theorem do_mod : DOp X (binaryOp .Mod) pMod := dop_of op_mod fun x y H Q ⟨dx, dy, h, Qd, rx, ry, rh, q, o⟩ => by
  unfold pMod at q
  split at q
  · cases rx; cases ry
    exact ⟨_, _, rfl, rfl, q.1, o _ h _ H q.2 (Go.refl rh) (.v _)⟩
  · exact q.elim
theorem do_pow : DOp X (binaryOp .Pow) pPow := dop_of op_pow fun x y H Q ⟨dx, dy, h, Qd, rx, ry, rh, q, o⟩ => by
  unfold pPow at q
  split at q
  · cases rx; cases ry
    exact ⟨_, _, rfl, rfl, q.1, o _ h _ H q.2 (Go.refl rh) (.v _)⟩
  · exact q.elim
end
def strLt (a b : Str) : Bool := decide (a.cps.toList < b.cps.toList)
def pLt : R2d := fun x y h Q => match x, y with
  | .v (.int i), .v (.int j) => Q (.v (.bl (decide (i < j)))) h
  | .v (.str a), .v (.str b) => Q (.v (.bl (strLt a b))) h
  | _, _ => False
def pLe : R2d := fun x y h Q => match x, y with
  | .v (.int i), .v (.int j) => Q (.v (.bl (decide (i ≤ j)))) h
  | .v (.str a), .v (.str b) => Q (.v (.bl (!strLt b a))) h
  | _, _ => False
def pGt : R2d := fun x y h Q => match x, y with
  | .v (.int i), .v (.int j) => Q (.v (.bl (decide (j < i)))) h
  | .v (.str a), .v (.str b) => Q (.v (.bl (strLt b a))) h
  | _, _ => False
def pGe : R2d := fun x y h Q => match x, y with
  | .v (.int i), .v (.int j) => Q (.v (.bl (decide (j ≤ i)))) h
  | .v (.str a), .v (.str b) => Q (.v (.bl (!strLt a b))) h
  | _, _ => False
section
variable {X : Cx}
theorem do_lt : DOp X (compareOp .Lt) pLt := dop_of (OpR.or op_lt op_lt_str) fun x y H Q ⟨dx, dy, h, Qd, rx, ry, rh, q, o⟩ => by
  unfold pLt at q
  split at q
  · cases rx; cases ry
    exact .inl ⟨_, _, rfl, rfl, o _ h _ H q (Go.refl rh) (.v _)⟩
  · cases rx; cases ry
    exact .inr ⟨_, _, rfl, rfl, o _ h _ H q (Go.refl rh) (.v _)⟩
  · exact q.elim
theorem do_le : DOp X (compareOp .LtE) pLe := dop_of (OpR.or op_le op_le_str) fun x y H Q ⟨dx, dy, h, Qd, rx, ry, rh, q, o⟩ => by
  unfold pLe at q
  split at q
  · cases rx; cases ry
    exact .inl ⟨_, _, rfl, rfl, o _ h _ H q (Go.refl rh) (.v _)⟩
  · cases rx; cases ry
    exact .inr ⟨_, _, rfl, rfl, o _ h _ H q (Go.refl rh) (.v _)⟩
  · exact q.elim
theorem do_gt : DOp X (compareOp .Gt) pGt := dop_of (OpR.or op_gt op_gt_str) fun x y H Q ⟨dx, dy, h, Qd, rx, ry, rh, q, o⟩ => by
  unfold pGt at q
  split at q
  · cases rx; cases ry
    exact .inl ⟨_, _, rfl, rfl, o _ h _ H q (Go.refl rh) (.v _)⟩
  · cases rx; cases ry
    exact .inr ⟨_, _, rfl, rfl, o _ h _ H q (Go.refl rh) (.v _)⟩
  · exact q.elim
theorem do_ge : DOp X (compareOp .GtE) pGe := dop_of (OpR.or op_ge op_ge_str) fun x y H Q ⟨dx, dy, h, Qd, rx, ry, rh, q, o⟩ => by
  unfold pGe at q
  split at q
  · cases rx; cases ry
    exact .inl ⟨_, _, rfl, rfl, o _ h _ H q (Go.refl rh) (.v _)⟩
  · cases rx; cases ry
    exact .inr ⟨_, _, rfl, rfl, o _ h _ H q (Go.refl rh) (.v _)⟩
  · exact q.elim
end
mutual
/-- == of data -/
def eqD : D → D → Bool
  | .v x, .v y => eqV x y
  | .t xs, .t ys => eqDs xs ys
  | _, _ => false
def eqDs : List D → List D → Bool
  | [], [] => true
  | x :: xs, y :: ys => eqD x y && eqDs xs ys
  | _, _ => false
end
mutual
/-- None, bools, ints, texts, tuples of such, of a depth below n -/
def plD : Nat → D → Bool
  | _, .v x => flatV x
  | _, .k _ => false
  | 0, .t _ => false
  | n + 1, .t xs => plDs n xs
def plDs : Nat → List D → Bool
  | _, [] => true
  | n, x :: xs => plD n x && plDs n xs
end
theorem plDs_at : ∀ {n : Nat} {xs : List D} {d : D}, plDs n xs = true → d ∈ xs → plD n d = true
  | _, x :: xs, d, h, m => by
    unfold plDs at h
    rw [Bool.and_eq_true] at h
    rcases List.mem_cons.mp m with rfl | m
    · exact h.1
    · exact plDs_at h.2 m
theorem eqDs_at : ∀ (xs ys : List D), eqDs xs ys = ((List.range (min xs.length ys.length)).all (fun j => match xs[j]?, ys[j]? with | some a, some b => eqD a b | _, _ => false) && xs.length == ys.length)
  | [], [] => by simp [eqDs]
  | [], _ :: _ => by simp [eqDs]
  | _ :: _, [] => by simp [eqDs]
  | x :: xs, y :: ys => by
    rw [eqDs, eqDs_at xs ys]
    rw [List.length_cons, List.length_cons, Nat.succ_min_succ, List.range_succ_eq_map, List.all_cons, List.all_map]
    simp only [List.getElem?_cons_zero, Function.comp_def, List.getElem?_cons_succ, Bool.and_assoc]
    congr 1
    congr 1
    rw [Bool.eq_iff_iff]
    simp
section
variable {X : Cx} {pins : List (Addr × Obj)} {σ : St} {H : Hp} {s : Shared}
theorem eqV_refl {x : V} (f : flatV x = true) : eqV x x = true := by cases x <;> simp [flatV, eqV] at *
mutual
theorem eq_sameD (I : Inv X pins σ H s) : ∀ (n : Nat) (x y : D) (xv : V), plD n x = true → plD n y = true → Rp X.K H x xv → Rp X.K H y xv → eqD x y = true
  | _, .v x, .v _, _, px, _, .v _, .v _ => by
    unfold plD at px
    unfold eqD
    exact eqV_refl px
  | _, .v x, .t ys, _, px, _, r, r' => by
    cases r
    cases r'
    simp [plD, flatV] at px
  | _, .t xs, .v y, _, _, py, r, r' => by
    cases r'
    cases r
    simp [plD, flatV] at py
  | _, .k xs, _, _, px, _, _, _ => by simp [plD] at px
  | _, .v _, .k ys, _, _, py, _, _ => by simp [plD] at py
  | _, .t _, .k ys, _, _, py, _, _ => by simp [plD] at py
  | 0, .t xs, .t ys, _, px, _, _, _ => by simp [plD] at px
  | n + 1, .t xs, .t ys, _, px, py, .t sa ra, .t sb rb => by
    have e := I.tuple_inj sa.sq sb.sq
    subst e
    unfold plD at px py
    unfold eqD
    exact eq_sameDs I n xs ys _ px py ra rb
theorem eq_sameDs (I : Inv X pins σ H s) : ∀ (n : Nat) (xs ys : List D) (vs : List V), plDs n xs = true → plDs n ys = true → Rps X.K H xs vs → Rps X.K H ys vs → eqDs xs ys = true
  | _, [], [], _, _, _, .nil, .nil => by unfold eqDs; rfl
  | n, x :: xs, y :: ys, _, px, py, .cons r rs, .cons t ts => by
    unfold plDs at px py
    rw [Bool.and_eq_true] at px py
    unfold eqDs
    rw [eq_sameD I n x y _ px.1 py.1 r t, eq_sameDs I n xs ys _ px.2 py.2 rs ts]
    rfl
  | _, [], _ :: _, _, _, _, r, r' => by
    cases r
    cases r'
  | _, _ :: _, [], _, _, _, r, r' => by
    cases r'
    cases r
end
theorem plD_v {n : Nat} {x : V} : plD n (.v x) = flatV x := by cases n <;> simp [plD]
theorem eqAt_D (I : Inv X pins σ H s) : ∀ (n : Nat) (A : Around) (x y : D) (xv yv : V) (u v : Value), A.units + n < cLine → plD n x = true → plD n y = true → Rp X.K H x xv → Rp X.K H y yv → RelV xv u → RelV yv v → SeqAt.EqAt A s u v (eqD x y) := by
  intro n
  induction n with
  | zero =>
    intro A x y xv yv u v hu px py rx ry ru rv
    cases rx with
    | t => simp [plD] at px
    | k => simp [plD] at px
    | v =>
      cases ry with
      | t => simp [plD] at py
      | k => simp [plD] at py
      | v =>
        rw [plD_v] at px py
        unfold eqD
        exact eqAt_V ru rv px py
  | succ n ih =>
    intro A x y xv yv u v hu px py rx ry ru rv
    have ha : A.units < cLine := by omega
    cases rx with
    | k => simp [plD] at px
    | v =>
      rw [plD_v] at px
      cases ry with
      | k => simp [plD] at py
      | v =>
        rw [plD_v] at py
        unfold eqD
        exact eqAt_V ru rv px py
      | t sq r =>
        cases rv
        obtain ⟨its, _, pl, _⟩ := I.tuple sq.sq
        unfold eqD
        cases xv with
        | non => cases ru; exact SeqAt.EqAt.none_tuple pl ha
        | bl b => cases ru; exact SeqAt.EqAt.bool_tuple b pl ha
        | int i => obtain ⟨t, rfl⟩ := ru; exact SeqAt.EqAt.int_tuple i t pl ha
        | str z => obtain ⟨t, rfl⟩ := ru; exact SeqAt.EqAt.str_tuple z t pl ha
        | _ => cases px
    | @t xs a vs sa ra =>
      cases ru
      obtain ⟨ia, va, pa, _⟩ := I.tuple sa.sq
      cases ry with
      | k => simp [plD] at py
      | v =>
        rw [plD_v] at py
        unfold eqD
        cases yv with
        | non => cases rv; exact SeqAt.EqAt.tuple_none pa ha
        | bl b => cases rv; exact SeqAt.EqAt.tuple_bool b pa ha
        | int i => obtain ⟨t, rfl⟩ := rv; exact SeqAt.EqAt.tuple_int i t pa ha
        | str z => obtain ⟨t, rfl⟩ := rv; exact SeqAt.EqAt.tuple_str z t pa ha
        | _ => cases py
      | @t ys b ws sb rb =>
        cases rv
        obtain ⟨ib, vb, pb, _⟩ := I.tuple sb.sq
        have la : ia.length = xs.length := by rw [← va.length, ra.length]
        have lb : ib.length = ys.length := by rw [← vb.length, rb.length]
        unfold plD at px py
        by_cases hab : a = b
        · subst hab
          have e := I.tuple_inj sa.sq sb.sq
          subst e
          unfold eqD
          rw [eq_sameDs I n xs ys _ px py ra rb]
          exact SeqAt.EqAt.same _
        · have k := SeqAt.RcAt.tuples (A := A) (e := fun j => match xs[j]?, ys[j]? with | some a, some b => eqD a b | _, _ => false) pa pb ha (fun j h1 h2 => ?_)
          · refine SeqAt.EqAt.of_refs hab ?_
            unfold eqD
            rw [eqDs_at]
            rw [List.size_toArray, List.size_toArray, la, lb] at k
            exact k
          · have h1' : j < xs.length := by rw [← la]; simpa using h1
            have h2' : j < ys.length := by rw [← lb]; simpa using h2
            obtain ⟨xv, ex, rx⟩ := ra.get (List.getElem?_eq_getElem h1')
            obtain ⟨yv, ey, ry⟩ := rb.get (List.getElem?_eq_getElem h2')
            obtain ⟨ux, eux, rux⟩ := va.get ex
            obtain ⟨uy, euy, ruy⟩ := vb.get ey
            have e1 : ia.toArray[j] = ux := by
              have := List.getElem?_eq_some_iff.mp eux
              simpa using this.2
            have e2 : ib.toArray[j] = uy := by
              have := List.getElem?_eq_some_iff.mp euy
              simpa using this.2
            rw [List.getElem?_eq_getElem h1', List.getElem?_eq_getElem h2', e1, e2]
            exact ih A.in1 _ _ xv yv ux uy (by show A.units + 1 + n < cLine; omega) (plDs_at px (List.getElem_mem h1')) (plDs_at py (List.getElem_mem h2')) rx ry rux ruy
theorem eqItems (I : Inv X pins σ H s) {n : Nat} {A : Around} {xs ys : List D} {vs ws : List V} {ia ib : List Value} (hu : A.units + 1 + n < cLine) (px : plDs n xs = true) (py : plDs n ys = true) (ra : Rps X.K H xs vs) (rb : Rps X.K H ys ws) (va : Vals vs ia) (vb : Vals ws ib) :
    ∀ (j : Nat) (h1 : j < ia.toArray.size) (h2 : j < ib.toArray.size), SeqAt.EqAt A.in1 s ia.toArray[j] ib.toArray[j] (match xs[j]?, ys[j]? with | some a, some b => eqD a b | _, _ => false) := fun j h1 h2 => by
  have la : ia.length = xs.length := by rw [← va.length, ra.length]
  have lb : ib.length = ys.length := by rw [← vb.length, rb.length]
  have h1' : j < xs.length := by rw [← la]; simpa using h1
  have h2' : j < ys.length := by rw [← lb]; simpa using h2
  obtain ⟨xv, ex, rx⟩ := ra.get (List.getElem?_eq_getElem h1')
  obtain ⟨yv, ey, ry⟩ := rb.get (List.getElem?_eq_getElem h2')
  obtain ⟨ux, eux, rux⟩ := va.get ex
  obtain ⟨uy, euy, ruy⟩ := vb.get ey
  have e1 : ia.toArray[j] = ux := by
    have := List.getElem?_eq_some_iff.mp eux
    simpa using this.2
  have e2 : ib.toArray[j] = uy := by
    have := List.getElem?_eq_some_iff.mp euy
    simpa using this.2
  rw [List.getElem?_eq_getElem h1', List.getElem?_eq_getElem h2', e1, e2]
  exact eqAt_D I n A.in1 _ _ xv yv ux uy (by show A.units + 1 + n < cLine; omega) (plDs_at px (List.getElem_mem h1')) (plDs_at py (List.getElem_mem h2')) rx ry rux ruy
theorem rcAt_V {A : Around} {y x : V} {u v : Value} (ry : RelV y u) (rx : RelV x v) (fy : flatV y = true) (fx : flatV x = true) : SeqAt.RcAt A s u v (eqV y x) ∧ SeqAt.RcNeAt A s u v (!eqV y x) := by
  cases y with
  | non =>
    cases ry
    cases x with
    | non => cases rx; exact ⟨SeqAt.RcAt.none_none, SeqAt.RcNeAt.none_none⟩
    | bl b => cases rx; exact ⟨SeqAt.RcAt.none_bool b, SeqAt.RcNeAt.none_bool b⟩
    | int b => obtain ⟨t, rfl⟩ := rx; exact ⟨SeqAt.RcAt.none_int b t, SeqAt.RcNeAt.none_int b t⟩
    | str b => obtain ⟨t, rfl⟩ := rx; exact ⟨SeqAt.RcAt.none_str b t, SeqAt.RcNeAt.none_str b t⟩
    | _ => exact absurd (show false = true from fx) Bool.false_ne_true
  | bl a =>
    cases ry
    cases x with
    | non => cases rx; exact ⟨SeqAt.RcAt.bool_none a, SeqAt.RcNeAt.bool_none a⟩
    | bl b => cases rx; exact ⟨SeqAt.RcAt.bool_bool a b, SeqAt.RcNeAt.bool_bool a b⟩
    | int b => obtain ⟨t, rfl⟩ := rx; exact ⟨SeqAt.RcAt.bool_int a b t, SeqAt.RcNeAt.bool_int a b t⟩
    | str b => obtain ⟨t, rfl⟩ := rx; exact ⟨SeqAt.RcAt.bool_str a b t, SeqAt.RcNeAt.bool_str a b t⟩
    | _ => exact absurd (show false = true from fx) Bool.false_ne_true
  | int a =>
    obtain ⟨t', rfl⟩ := ry
    cases x with
    | non => cases rx; exact ⟨SeqAt.RcAt.int_none a t', SeqAt.RcNeAt.int_none a t'⟩
    | bl b => cases rx; exact ⟨SeqAt.RcAt.int_bool a t' b, SeqAt.RcNeAt.int_bool a t' b⟩
    | int b => obtain ⟨t, rfl⟩ := rx; exact ⟨SeqAt.RcAt.int_int a t' b t, SeqAt.RcNeAt.int_int a t' b t⟩
    | str b => obtain ⟨t, rfl⟩ := rx; exact ⟨SeqAt.RcAt.int_str a t' b t, SeqAt.RcNeAt.int_str a t' b t⟩
    | _ => exact absurd (show false = true from fx) Bool.false_ne_true
  | str a =>
    obtain ⟨t', rfl⟩ := ry
    cases x with
    | non => cases rx; exact ⟨SeqAt.RcAt.str_none a t', SeqAt.RcNeAt.str_none a t'⟩
    | bl b => cases rx; exact ⟨SeqAt.RcAt.str_bool a t' b, SeqAt.RcNeAt.str_bool a t' b⟩
    | int b => obtain ⟨t, rfl⟩ := rx; exact ⟨SeqAt.RcAt.str_int a t' b t, SeqAt.RcNeAt.str_int a t' b t⟩
    | str b => obtain ⟨t, rfl⟩ := rx; exact ⟨SeqAt.RcAt.str_str a t' b t, SeqAt.RcNeAt.str_str a t' b t⟩
    | _ => exact absurd (show false = true from fx) Bool.false_ne_true
  | _ => exact absurd (show false = true from fy) Bool.false_ne_true
theorem rcAt_D (I : Inv X pins σ H s) (n : Nat) (A : Around) (x y : D) (xv yv : V) (u v : Value) (hu : A.units + n < cLine) (px : plD n x = true) (py : plD n y = true) (rx : Rp X.K H x xv) (ry : Rp X.K H y yv) (ru : RelV xv u) (rv : RelV yv v) :
    SeqAt.RcAt A s u v (eqD x y) ∧ SeqAt.RcNeAt A s u v (!eqD x y) := by
  have ha : A.units < cLine := by omega
  cases rx with
  | k => simp [plD] at px
  | v =>
    rw [plD_v] at px
    cases ry with
    | k => simp [plD] at py
    | v =>
      rw [plD_v] at py
      unfold eqD
      exact rcAt_V ru rv px py
    | t sq r =>
      cases rv
      obtain ⟨its, _, pl, _⟩ := I.tuple sq.sq
      unfold eqD
      cases xv with
      | non => cases ru; exact ⟨SeqAt.RcAt.none_tuple pl ha, SeqAt.RcNeAt.none_tuple pl ha⟩
      | bl b => cases ru; exact ⟨SeqAt.RcAt.bool_tuple b pl ha, SeqAt.RcNeAt.bool_tuple b pl ha⟩
      | int i => obtain ⟨t, rfl⟩ := ru; exact ⟨SeqAt.RcAt.int_tuple i t pl ha, SeqAt.RcNeAt.int_tuple i t pl ha⟩
      | str z => obtain ⟨t, rfl⟩ := ru; exact ⟨SeqAt.RcAt.str_tuple z t pl ha, SeqAt.RcNeAt.str_tuple z t pl ha⟩
      | _ => cases px
  | @t xs a vs sa ra =>
    cases ru
    obtain ⟨ia, va, pa, _⟩ := I.tuple sa.sq
    cases ry with
    | k => simp [plD] at py
    | v =>
      rw [plD_v] at py
      unfold eqD
      cases yv with
      | non => cases rv; exact ⟨SeqAt.RcAt.tuple_none pa ha, SeqAt.RcNeAt.tuple_none pa ha⟩
      | bl b => cases rv; exact ⟨SeqAt.RcAt.tuple_bool b pa ha, SeqAt.RcNeAt.tuple_bool b pa ha⟩
      | int i => obtain ⟨t, rfl⟩ := rv; exact ⟨SeqAt.RcAt.tuple_int i t pa ha, SeqAt.RcNeAt.tuple_int i t pa ha⟩
      | str z => obtain ⟨t, rfl⟩ := rv; exact ⟨SeqAt.RcAt.tuple_str z t pa ha, SeqAt.RcNeAt.tuple_str z t pa ha⟩
      | _ => cases py
    | @t ys b ws sb rb =>
      cases rv
      obtain ⟨ib, vb, pb, _⟩ := I.tuple sb.sq
      have la : ia.length = xs.length := by rw [← va.length, ra.length]
      have lb : ib.length = ys.length := by rw [← vb.length, rb.length]
      cases n with
      | zero => simp [plD] at px
      | succ n =>
        unfold plD at px py
        have k := eqItems (A := A) I (by omega) px py ra rb va vb
        have k1 := SeqAt.RcAt.tuples pa pb ha k
        have k2 := SeqAt.RcNeAt.tuples pa pb ha k
        rw [List.size_toArray, List.size_toArray, la, lb] at k1 k2
        unfold eqD
        rw [eqDs_at]
        exact ⟨k1, k2⟩
def pEq : R2d := fun x y h Q => match x, y with
  | .v (.int i), .v (.int j) => Q (.v (.bl (decide (i = j)))) h
  | .v (.str i), .v (.str j) => Q (.v (.bl (decide (i = j)))) h
  | x, y => (plD 50 x && plD 50 y) = true ∧ Q (.v (.bl (eqD x y))) h
def pNe : R2d := fun x y h Q => match x, y with
  | .v (.int i), .v (.int j) => Q (.v (.bl (!decide (i = j)))) h
  | .v (.str i), .v (.str j) => Q (.v (.bl (!decide (i = j)))) h
  | x, y => (plD 50 x && plD 50 y) = true ∧ Q (.v (.bl (!eqD x y))) h
theorem eqV_int {i j : Int} : eqV (.int i) (.int j) = decide (i = j) := by unfold eqV; exact Bool.beq_eq_decide_eq i j
theorem eqV_str {i j : Str} : eqV (.str i) (.str j) = decide (i = j) := by unfold eqV; rw [Bool.eq_iff_iff]; simp
theorem do_eq (hu : X.A.units + 50 < cLine) : DOp X (compareOp .Eq) pEq := fun pins s σ H x y v u Q I rv ru ⟨dx, dy, h, Qd, rx, ry, rh, q, o⟩ => by
  have q' : (plD 50 dx && plD 50 dy) = true ∧ Qd (.v (.bl (eqD dx dy))) h := by
    unfold pEq at q
    split at q
    · exact ⟨rfl, by unfold eqD; rw [eqV_int]; exact q⟩
    · exact ⟨rfl, by unfold eqD; rw [eqV_str]; exact q⟩
    · exact q
  obtain ⟨p, q⟩ := q'
  rw [Bool.and_eq_true] at p
  exact (rcAt_D I 50 X.A dx dy x y v u hu p.1 p.2 rx ry rv ru).1 _ _ _ _ ⟨.bl _, H, I, rfl, o _ h _ H q (Go.refl rh) (.v _)⟩
theorem do_ne (hu : X.A.units + 50 < cLine) : DOp X (compareOp .NotEq) pNe := fun pins s σ H x y v u Q I rv ru ⟨dx, dy, h, Qd, rx, ry, rh, q, o⟩ => by
  have q' : (plD 50 dx && plD 50 dy) = true ∧ Qd (.v (.bl (!eqD dx dy))) h := by
    unfold pNe at q
    split at q
    · exact ⟨rfl, by unfold eqD; rw [eqV_int]; exact q⟩
    · exact ⟨rfl, by unfold eqD; rw [eqV_str]; exact q⟩
    · exact q
  obtain ⟨p, q⟩ := q'
  rw [Bool.and_eq_true] at p
  exact (rcAt_D I 50 X.A dx dy x y v u hu p.1 p.2 rx ry rv ru).2 _ _ _ _ ⟨.bl _, H, I, rfl, o _ h _ H q (Go.refl rh) (.v _)⟩
end
end DL
namespace DL
open PySem L2
def pIx : R2d := fun x y h Q => match x, y with
  | .t ds, .v (.int i) => match atI ds i with
    | some d => Q d h
    | none => False
  | .k ds, .v (.int i) => match atI ds i with
    | some d => Q d h
    | none => False
  | .v (.str z), .v (.int i) => z.length ≤ sizeLine ∧ (match atI z.cps.toList i with
    | some c => Q (.v (.str ⟨#[c]⟩)) h
    | none => False)
  | .v (.ref a), .v (.int i) => match rdL h a with
    | some xs => (match atI xs i with
      | some d => Q d h
      | none => False)
    | none => False
  | _, _ => False
theorem atI_rp {K : PySem.W.Frag} {H : Hp} {ds : List D} {vs : List V} {i : Int} {d : D} (r : Rps K H ds vs) (e : atI ds i = some d) : ∃ x, atI vs i = some x ∧ Rp K H d x := by
  unfold atI at e ⊢
  rw [← r.length]
  cases q : ixN ds.length i with
  | none => rw [q] at e; cases e
  | some j =>
    rw [q] at e
    exact r.get e
section
variable {X : Cx} {B : Bs} {a b : Expr} {ta tb : ED} {pos : Pos}
abbrev OD := Sd → Hd → (Option Int → Hd → Prop) → Prop
def lO (G : Gv) (B : Bs) (t : OD) : TO := fun σV H QV => ∃ σ h Q, R0 G B σ h σV H ∧ t σ h Q ∧ ∀ o h' H', Q o h' → Go G H h H' h' → QV o H'
def DO (X : Cx) (B : Bs) (e : Option Expr) (t : OD) : Prop := PO X e (lO X.gv B t)
theorem PO.imp {X : Cx} {e : Option Expr} {t t' : TO} (h : PO X e t) (w : ∀ σ H Q, t' σ H Q → t σ H Q) : PO X e t' := ⟨fun pins s σ H Q I q => h.run pins s σ H Q I (w σ H Q q)⟩
def dNoPart : OD := fun _ h Q => Q none h
def dPart (t : ED) : OD := fun σ h Q => t σ h fun d h1 => match d with
  | .v (.int i) => Q (some i) h1
  | _ => False
theorem do_none : DO X B none dNoPart := PO.imp po_none fun σV H QV ⟨σ, h, Q, r0, q, o⟩ => o none h H q (Go.refl r0.h)
theorem do_some {e : Expr} {te : ED} (he : DE X B e te) : DO X B (some e) (dPart te) := PO.imp (po_some he) fun σV H QV ⟨σ, h, Q, r0, q, o⟩ => ⟨σ, h, _, r0, q, fun d h1 v H1 q1 g1 rp => by
  split at q1
  · cases rp
    exact ⟨_, rfl, o _ h1 H1 q1 g1⟩
  · exact q1.elim⟩
def cutD (xs : List D) (lo hi : Option Int) : List D := (xs.drop (HT.sIx xs.length 0 lo)).take (HT.sIx xs.length xs.length hi - HT.sIx xs.length 0 lo)
theorem cutD_rp {K : PySem.W.Frag} {H : Hp} {ds : List D} {vs : List V} {lo hi : Option Int} (r : Rps K H ds vs) : Rps K H (cutD ds lo hi) (cutV vs lo hi) := by
  unfold cutD cutV
  rw [r.length]
  exact (r.drop _).take _
def pSl (x : D) (lo hi : Option Int) (h : Hd) (Q : KD) : Prop := match x with
  | .t ds => Q (.t (cutD ds lo hi)) h
  | .k ds => al h (fun p => Q (.v (.ref p)) (put h p (.lst (cutD ds lo hi)))) .mk
  | .v (.str z) => z.length ≤ sizeLine ∧ Q (.v (.str (cutS z lo hi))) h
  | .v (.ref a) => match rdL h a with
    | some xs => al h (fun p => Q (.v (.ref p)) (put h p (.lst (cutD xs lo hi)))) .mk
    | none => False
  | _ => False
def dSl (te : ED) (tl th : OD) : ED := fun σ h Q => te σ h fun x h1 => tl σ h1 fun l h2 => th σ h2 fun u h3 => pSl x l u h3 Q
def rSlP (K : PySem.W.Frag) : V → Option Int → Option Int → Hp → VK → Prop := fun x lo hi H Q => ∃ a xs, x = .ref a ∧ SqT K H a xs ∧
  (HT.sIx xs.length 0 lo = 0 ∧ HT.sIx xs.length xs.length hi = xs.length → Q (.ref a) H) ∧ (¬ (HT.sIx xs.length 0 lo = 0 ∧ HT.sIx xs.length xs.length hi = xs.length) → ∀ (p : Addr) (ob : Obj), ob.dict = none → H p = none → Q (.ref p) (upd H p (.frz ob (.tup (cutV xs lo hi)))))
theorem sl_tupP : SlR X (rSlP X.K) := by
  intro pins s σ H x v vl vu lo hi sl Q I rx hs pl pu h
  obtain ⟨a, xs, rfl, hx, q1, q2⟩ := h
  cases rx
  obtain ⟨its, r, ht, hz⟩ := I.tuple hx
  have hlen : its.toArray.size = xs.length := by rw [List.size_toArray]; exact r.length.symm
  refine ⟨"tuple", _, PyProof.Rows.slot_tuple_getitem.lookup, ht.typeIs, ?_⟩
  by_cases hw : HT.sIx xs.length 0 lo = 0 ∧ HT.sIx xs.length xs.length hi = xs.length
  · exact getItem_tuple_whole ht hs pl pu (by rw [hlen]; exact hw) ⟨.ref a, H, I, rfl, q1 hw⟩
  · refine HT.getItem_tuple_cut ht hs pl pu (by rw [hlen]; exact hw) ?_ (by rw [hlen]; exact hz)
    rw [hlen]
    refine ⟨.ref s.heap.objs.size, _, I.laid (t' := s.toks) (o := .frz _ (.tup (cutV xs lo hi))) (fun b ob q => Heap.get?_push_of_some _ q) (Nat.le_refl _) ⟨Heap.get?_push_size _ rfl, ?_⟩, rfl, q2 hw _ _ rfl (I.hok.fresh (Nat.le_refl _))⟩
    exact ⟨Nat.le_trans (cutV_length xs lo hi) hz, _, (r.drop (HT.sIx xs.length 0 lo)).take (HT.sIx xs.length xs.length hi - HT.sIx xs.length 0 lo), PyProof.Rows.IsTup.new _ _⟩
theorem de_sl {e : Expr} {lo hi : Option Expr} {p2 : Pos} {te : ED} {tl th : OD} (he : DE X B e te) (hl : DO X B lo tl) (hu : DO X B hi th) : DE X B (.Subscript e (.Slice lo hi none p2) pos) (dSl te tl th) :=
  PE.imp (pe_slice (sl_list.or (sl_tupP.or sl_str)) he hl hu) fun σV H QV ⟨σ, h, Q, r0, q, o⟩ => ⟨σ, h, _, r0, q, fun x h1 xv H1 q1 g1 rx => ⟨σ, h1, _, r0.next g1, q1, fun l h2 H2 q2 g2 => ⟨σ, h2, _, (r0.next g1).next g2, q2, fun u h3 H3 q3 g3 => by
    have rx := (rx.stb g2.st).stb g3.st
    have o := o.on (g1.trans (g2.trans g3))
    unfold pSl at q3
    split at q3
    · cases rx with
      | t sq r =>
        refine .inr (.inl ⟨_, _, rfl, sq.sq, fun hw => ?_, fun _ p ob ed hp => ?_⟩)
        · refine o _ h3 _ H3 q3 (Go.refl g3.rh) (.t sq ?_)
          have c := cutD_rp (lo := l) (hi := u) r
          unfold cutV at c
          rw [hw.1, hw.2, List.drop_zero, Nat.sub_zero, List.take_length] at c
          exact c
        · exact o _ h3 _ _ q3 (Go.hid g3.rh hp) (.t (SqP.new ed) ((cutD_rp r).stb (Stb.new hp)))
    · cases rx with
      | k sq r => exact .inl ⟨_, _, rfl, sq.sq, fun p hp => o _ _ _ _ (q3 p (g3.rh.free hp)) (Go.new g3.rh hp ⟨_, rfl, (cutD_rp r).stb (Stb.new hp)⟩) (.v _)⟩
    · cases rx
      exact .inr (.inr ⟨_, rfl, q3.1, o _ h3 _ H3 q3.2 (Go.refl g3.rh) (.v _)⟩)
    · split at q3
      · rename_i xs e
        cases rx
        obtain ⟨vs, sq, r⟩ := rdL_ok g3.rh e
        exact .inl ⟨_, _, rfl, sq, fun p hp => o _ _ _ _ (q3 p (g3.rh.free hp)) (Go.new g3.rh hp ⟨_, rfl, (cutD_rp r).stb (Stb.new hp)⟩) (.v _)⟩
      · exact q3.elim
    · exact q3.elim⟩⟩⟩
def l1 (G : Gv) (r : D → Hd → KD → Prop) : V → Hp → VK → Prop := fun xV H QV => ∃ x h Q, Rp G.K H x xV ∧ RelH G H h ∧ r x h Q ∧ OutE G H h Q QV
def pNeg : D → Hd → KD → Prop := fun x h Q => match x with
  | .v (.int i) => Q (.v (.int (-i))) h
  | _ => False
def d1 (r : D → Hd → KD → Prop) (ta : ED) : ED := fun σ h Q => ta σ h fun x h1 => r x h1 Q
theorem de_neg (ha : DE X B a ta) : DE X B (.UnaryOp .USub a pos) (d1 pNeg ta) :=
  PE.imp (pe_un un_neg ha) fun σV H QV ⟨σ, h, Q, r0, q, o⟩ => ⟨σ, h, _, r0, q, fun x h1 xv H1 q1 g1 rx => by
    unfold pNeg at q1
    split at q1
    · cases rx
      exact ⟨_, rfl, (o.on g1) _ h1 _ H1 q1 (Go.refl g1.rh) (.v _)⟩
    · exact q1.elim⟩
def isN : D → Bool
  | .v .non => true
  | _ => false
def pIs : R2d := fun x y h Q => match y with
  | .v .non => Q (.v (.bl (isN x))) h
  | _ => False
def pIsNot : R2d := fun x y h Q => match y with
  | .v .non => Q (.v (.bl (!isN x))) h
  | _ => False
theorem isN_eq {K : PySem.W.Frag} {H : Hp} {d : D} {x : V} (r : Rp K H d x) : isN d = decide (x = .non) := by
  cases r with
  | t => simp [isN]
  | k => simp [isN]
  | v => cases x <;> simp [isN]
theorem do_is : DOp X (compareOp .Is) pIs := dop_of op_isN fun x y H Q ⟨dx, dy, h, Qd, rx, ry, rh, q, o⟩ => by
  unfold pIs at q
  split at q
  · cases ry
    rw [isN_eq rx] at q
    exact ⟨rfl, o _ h _ H q (Go.refl rh) (.v _)⟩
  · exact q.elim
theorem do_isnot : DOp X (compareOp .IsNot) pIsNot := dop_of op_notN fun x y H Q ⟨dx, dy, h, Qd, rx, ry, rh, q, o⟩ => by
  unfold pIsNot at q
  split at q
  · cases ry
    rw [isN_eq rx] at q
    exact ⟨rfl, o _ h _ H q (Go.refl rh) (.v _)⟩
  · exact q.elim
end
def flatD : D → Bool
  | .v x => flatV x
  | _ => false
def inL (x : D) (xs : List D) : Bool := xs.any fun y => eqD y x
def strIn (i j : Str) : Bool := !(Builtin.Str.occurrences j i 0 j.length 1).isEmpty
def pInB (neg : Bool) : R2d := fun x y h Q => match y with
  | .t ds => flatD x = true ∧ ds.all flatD = true ∧ Q (.v (.bl (if neg then !inL x ds else inL x ds))) h
  | .v (.ref a) => match rdL h a with
    | some ds => flatD x = true ∧ ds.all flatD = true ∧ Q (.v (.bl (if neg then !inL x ds else inL x ds))) h
    | none => False
  | .v (.str z) => match x with
    | .v (.str i) => Q (.v (.bl (if neg then !strIn i z else strIn i z))) h
    | _ => False
  | _ => False
abbrev pIn : R2d := pInB false
abbrev pNotIn : R2d := pInB true
theorem flatD_v {K : PySem.W.Frag} {H : Hp} {d : D} {x : V} (f : flatD d = true) (r : Rp K H d x) : d = .v x ∧ flatV x = true := by
  cases r with
  | t => cases f
  | k => cases f
  | v => exact ⟨rfl, f⟩
theorem flatD_vs {K : PySem.W.Frag} {H : Hp} : ∀ {ds : List D} {xs : List V}, ds.all flatD = true → Rps K H ds xs → ds = xs.map D.v ∧ xs.all flatV = true
  | _, _, _, .nil => ⟨rfl, rfl⟩
  | _, _, f, .cons r t => by
    rw [List.all_cons, Bool.and_eq_true] at f
    obtain ⟨e, g⟩ := flatD_v f.1 r
    obtain ⟨e', g'⟩ := flatD_vs f.2 t
    rw [e, e', List.map_cons, List.all_cons, g, g']
    exact ⟨rfl, rfl⟩
theorem inL_eq (x : V) (xs : List V) : inL (.v x) (xs.map D.v) = inV x xs := by
  unfold inL inV
  rw [List.any_map]
  congr 1
section
variable {X : Cx}
theorem do_inB_aux {neg : Bool} {x y : V} {H : Hp} {Q : VK} (hh : l2 X.gv (pInB neg) x y H Q) : rIn X.K neg x y H Q ∨ ∃ i j, x = .str i ∧ y = .str j ∧ Q (.bl (if neg then !strIn i j else strIn i j)) H := by
  obtain ⟨dx, dy, h, Qd, rx, ry, rh, q, o⟩ := hh
  have go : ∀ {ds : List D} {vs : List V} {p : Addr}, y = .ref p → (SqL X.K H p vs ∨ SqT X.K H p vs) → Rps X.K H ds vs → (flatD dx = true ∧ ds.all flatD = true ∧ Qd (.v (.bl (if neg then !inL dx ds else inL dx ds))) h) → rIn X.K neg x y H Q := by
    rintro ds vs p ey sq r ⟨f1, f2, q⟩
    obtain ⟨e1, g1⟩ := flatD_v f1 rx
    obtain ⟨e2, g2⟩ := flatD_vs f2 r
    subst e1 e2
    rw [inL_eq] at q
    exact ⟨p, vs, ey, sq, g1, g2, o _ h _ H q (Go.refl rh) (.v _)⟩
  unfold pInB at q
  split at q
  · cases ry with
    | t sq r => exact .inl (go rfl (.inr sq) r q)
  · split at q
    · rename_i ds e
      cases ry
      obtain ⟨vs, sq, r⟩ := rdL_ok rh e
      exact .inl (go rfl (.inl sq) r q)
    · exact q.elim
  · split at q
    · cases rx; cases ry
      exact .inr ⟨_, _, rfl, rfl, o _ h _ H q (Go.refl rh) (.v _)⟩
    · exact q.elim
  · exact q.elim
theorem do_in : DOp X (compareOp .In) pIn := dop_of (OpR.or op_in_seq op_in_str) fun x y H Q hh => by
  rcases do_inB_aux hh with k | ⟨i, j, e1, e2, q⟩
  · exact .inl k
  · exact .inr ⟨i, j, e1, e2, q⟩
theorem do_notin : DOp X (compareOp .NotIn) pNotIn := dop_of (OpR.or op_notIn_seq op_notin_str) fun x y H Q hh => by
  rcases do_inB_aux hh with k | ⟨i, j, e1, e2, q⟩
  · exact .inl k
  · exact .inr ⟨i, j, e1, e2, q⟩
end
abbrev CD := List D → Hd → KD → Prop
def lC (G : Gv) (r : CD) : List V → Hp → VK → Prop := fun xs H QV => ∃ ds h Q, Rps G.K H ds xs ∧ RelH G H h ∧ r ds h Q ∧ OutE G H h Q QV
def DCa (X : Cx) (f : Value) (r : CD) : Prop := CallR X f (lC X.gv r)
def dCB (r : CD) (t : AD) : ED := fun σ h Q => t σ h fun ds h1 => r ds h1 Q
theorem dca_of {X : Cx} {f : Value} {r : List V → Hp → VK → Prop} {rd : CD} (hc : CallR X f r) (w : ∀ xs H Q, lC X.gv rd xs H Q → r xs H Q) : DCa X f rd := fun pins s σ H xs us Q I rx h => hc pins s σ H xs us Q I rx (w xs H Q h)
section
variable {X : Cx} {B : Bs} {x : Str} {p pos : Pos} {e : Expr} {es : List Expr} {t : AD} {r : CD} {id T : String}
theorem de_callB (hc : DCa X (.builtin id) r) (hm : X.mg x = none) (hv : bootBuiltins x = some (.builtin id)) (ha : DA X B (e :: es) t) (hg : Gl X x := by rfl) (hn : x ≠ "__name__" := by decide) (hdb : (x == ("__debug__" : Str)) = false := by decide)
    (he : starEach (e :: es) X.env = (false, eval e X.env) :: starEach es X.env := by rfl) (hpl : (backTo pos (starEach es X.env)).any (·.1) = false := by rfl) : DE X B (.Call (.Name x p) (e :: es) [] pos) (dCB r t) :=
  PE.imp (pe_callB hc hg hm hv ha hn hdb he hpl) fun σV H QV ⟨σ, h, Q, r0, q, o⟩ => ⟨σ, h, _, r0, q, fun ds h1 vs H1 q1 g1 rp _ => ⟨ds, h1, Q, rp, g1.rh, q1, o.on g1⟩⟩
theorem de_callTy (hc : DCa X (.type T) r) (hm : X.mg x = none) (hv : bootBuiltins x = some (.type T)) (ha : DA X B (e :: es) t) (hg : Gl X x := by rfl) (hn : x ≠ "__name__" := by decide) (hdb : (x == ("__debug__" : Str)) = false := by decide)
    (he : starEach (e :: es) X.env = (false, eval e X.env) :: starEach es X.env := by rfl) (hpl : (backTo pos (starEach es X.env)).any (·.1) = false := by rfl) : DE X B (.Call (.Name x p) (e :: es) [] pos) (dCB r t) :=
  PE.imp (pe_callTy hc hg hm hv ha hn hdb he hpl) fun σV H QV ⟨σ, h, Q, r0, q, o⟩ => ⟨σ, h, _, r0, q, fun ds h1 vs H1 q1 g1 rp _ => ⟨ds, h1, Q, rp, g1.rh, q1, o.on g1⟩⟩
theorem de_type {n : String} (hm : X.mg x = none) (hv : bootBuiltins x = some (.type n)) (hg : Gl X x := by rfl) (hn : x ≠ "__name__" := by decide) (hdb : (x == ("__debug__" : Str)) = false := by decide) : DE X B (.Name x pos) (dC (.v (.ty n))) :=
  de_c (pe_bltn hg hm hv rfl hn hdb)
end
def cInt : CD := fun ds h Q => match ds with
  | [.v (.int i)] => Q (.v (.int i)) h
  | [.v (.bl k)] => Q (.v (.int (if k then 1 else 0))) h
  | _ => False
def cLen : CD := fun ds h Q => match ds with
  | [.t xs] => Q (.v (.int (xs.length : Int))) h
  | [.k xs] => Q (.v (.int (xs.length : Int))) h
  | [.v (.str z)] => z.length ≤ sizeLine ∧ Q (.v (.int (z.length : Int))) h
  | [.v (.ref a)] => match rdL h a with
    | some xs => Q (.v (.int (xs.length : Int))) h
    | none => match h a with
      | some (.dk kvs) => Q (.v (.int (kvs.length : Int))) h
      | _ => False
  | _ => False
def cTuple : CD := fun ds h Q => match ds with
  | [.t xs] => Q (.t xs) h
  | [.v (.ref a)] => match rdL h a with
    | some xs => Q (.t xs) h
    | none => False
  | _ => False
def cList : CD := fun ds h Q => match ds with
  | [.t xs] => al h (fun p => Q (.v (.ref p)) (put h p (.lst xs))) .mk
  | [.v (.str z)] => z.length ≤ sizeLine ∧ al h (fun p => Q (.v (.ref p)) (put h p (.lst (chars z)))) .mk
  | [.v (.ref a)] => match rdL h a with
    | some xs => al h (fun p => Q (.v (.ref p)) (put h p (.lst xs))) .mk
    | none => False
  | _ => False
def tyName : D → Hd → Option String
  | .v .non, _ => some "NoneType"
  | .v (.bl _), _ => some "bool"
  | .v (.int _), _ => some "int"
  | .v (.str _), _ => some "str"
  | .t _, _ => some "tuple"
  | .v (.ref a), h => match h a with
    | some (.lst _) => some "list"
    | some (.dk _) => some "dict"
    | _ => none
  | _, _ => none
def subTy (a b : String) : Bool := a == b || (a == "bool" && b == "int")
def tyKnown (b : String) : Bool := b == "int" || b == "bool" || b == "str" || b == "tuple" || b == "list" || b == "dict"
def cIsi : CD := fun ds h Q => match ds with
  | [x, .v (.ty n)] => match tyName x h with
    | some m => tyKnown n = true ∧ Q (.v (.bl (subTy m n))) h
    | none => False
  | _ => False
section
variable {X : Cx}
theorem ca_int : DCa X (.type "int") cInt := dca_of call_int1 fun xs H Q ⟨ds, h, Qd, rp, rh, q, o⟩ => by
  unfold cInt at q
  split at q
  · cases rp with
    | cons r1 r2 => cases r1; cases r2; exact .inl ⟨_, rfl, o _ h _ H q (Go.refl rh) (.v _)⟩
  · cases rp with
    | cons r1 r2 => cases r1; cases r2; exact .inr ⟨_, rfl, o _ h _ H q (Go.refl rh) (.v _)⟩
  · exact q.elim
theorem dk_ok {G : Gv} {H : Hp} {h : Hd} {a : Addr} {kvs : List (Key × D)} (r : RelH G H h) (e : h a = some (.dk kvs)) : ∃ vs, H a = some (.dK vs) ∧ RpK G H kvs vs := by
  obtain ⟨u, hu, vs, rfl, rp⟩ := r a _ e
  exact ⟨vs, hu, rp⟩
theorem ca_len : DCa X (.builtin "len") cLen := dca_of (call_len.or call_lenD) fun xs H Q ⟨ds, h, Qd, rp, rh, q, o⟩ => by
  unfold cLen at q
  split at q
  · cases rp with
    | cons r1 r2 =>
      cases r2
      cases r1 with
      | t sq r => exact .inl ⟨_, _, rfl, .inr ⟨_, sq, rfl⟩, by rw [← r.length]; exact o _ h _ H q (Go.refl rh) (.v _)⟩
  · cases rp with
    | cons r1 r2 =>
      cases r2
      cases r1 with
      | k sq r => exact .inl ⟨_, _, rfl, .inl ⟨_, sq.sq, rfl⟩, by rw [← r.length]; exact o _ h _ H q (Go.refl rh) (.v _)⟩
  · cases rp with
    | cons r1 r2 => cases r1; cases r2; exact .inl ⟨_, _, rfl, ⟨q.1, rfl⟩, o _ h _ H q.2 (Go.refl rh) (.v _)⟩
  · split at q
    · rename_i ys e
      cases rp with
      | cons r1 r2 =>
        cases r1; cases r2
        obtain ⟨vs, sq, r⟩ := rdL_ok rh e
        exact .inl ⟨_, _, rfl, .inl ⟨_, sq, rfl⟩, by rw [← r.length]; exact o _ h _ H q (Go.refl rh) (.v _)⟩
    · split at q
      · rename_i kvs e
        cases rp with
        | cons r1 r2 =>
          cases r1; cases r2
          obtain ⟨vs, hv, r⟩ := dk_ok rh e
          exact .inr ⟨_, vs, rfl, hv, by rw [← show kvs.length = vs.length from Paired.length r]; exact o _ h _ H q (Go.refl rh) (.v _)⟩
      · exact q.elim
  · exact q.elim
theorem call_tuple_ofP : CallR X (.type "tuple") (fun xs H Q => ∃ p ys, xs = [.ref p] ∧ ((SqL X.K H p ys ∧ ∀ (l : Addr) (ob : Obj), ob.dict = none → H l = none → Q (.ref l) (upd H l (.frz ob (.tup ys)))) ∨ (SqT X.K H p ys ∧ Q (.ref p) H))) := by
  intro pins s σ H xs us Q I r h
  obtain ⟨p, ys, rfl, h⟩ := h
  obtain ⟨u, rfl, rx⟩ := vals1 r
  cases rx
  rcases h with ⟨hq, q⟩ | ⟨hq, q⟩
  · obtain ⟨its, r', pl, hz⟩ := I.list hq
    have hlen := r'.length
    refine call_tuple_list pl.isList (fun h' kp => ?_) (by simp only [List.size_toArray] <;> omega)
    have I1 : Inv X pins σ H { s with heap := h' } := I.kept (t' := s.toks) kp
    have I2 : Inv X pins σ (upd H h'.objs.size (.frz { cls := .type "tuple", data := .seq its.toArray } (.tup ys))) { s with heap := h'.push { cls := .type "tuple", data := .seq its.toArray } } :=
      I1.laid (t' := s.toks) (fun b o e => Heap.get?_push_of_some _ e) (Nat.le_refl _) (show ObjOk X.prog X.w _ _ _ (.frz _ (.tup ys)) from ⟨Heap.get?_push_size _ rfl, hz, its, r', PyProof.Rows.IsTup.new _ _⟩)
    exact ⟨.ref h'.objs.size, _, I2, rfl, q _ _ rfl (I1.hok.fresh (Nat.le_refl _))⟩
  · obtain ⟨its, r', pl, hz⟩ := I.tuple hq
    exact call_tuple_same pl ⟨.ref p, H, I, rfl, q⟩
theorem ca_tuple : DCa X (.type "tuple") cTuple := dca_of call_tuple_ofP fun xs H Q ⟨ds, h, Qd, rp, rh, q, o⟩ => by
  unfold cTuple at q
  split at q
  · cases rp with
    | cons r1 r2 =>
      cases r2
      cases r1 with
      | t sq r => exact ⟨_, _, rfl, .inr ⟨sq.sq, o _ h _ H q (Go.refl rh) (.t sq r)⟩⟩
  · split at q
    · rename_i ys e
      cases rp with
      | cons r1 r2 =>
        cases r1; cases r2
        obtain ⟨vs, sq, r⟩ := rdL_ok rh e
        exact ⟨_, _, rfl, .inl ⟨sq, fun l ob ed hl => o _ h _ _ q (Go.hid rh hl) (.t (SqP.new ed) (r.stb (Stb.new hl)))⟩⟩
    · exact q.elim
  · exact q.elim
theorem call_listS (hc : X.calm = true) : CallR X (.type "list") (fun xs H Q => ∃ z, xs = [.str z] ∧ z.length ≤ sizeLine ∧ ∀ l, H l = none → Q (.ref l) (upd H l (.lst (z.cps.toList.map fun c => V.str ⟨#[c]⟩)))) := by
  intro pins s σ H xs us Q I rx h
  obtain ⟨z, rfl, hz, q⟩ := h
  obtain ⟨u, rfl, t, rfl⟩ := vals1 rx
  refine call_list_str (I.ok.hd hc) z t (fun h' tk acc' c' hk hS hi => ?_) hz
  have hv : Vals (z.cps.toList.map fun c => V.str ⟨#[c]⟩) acc'.toList := by
    obtain ⟨h1, h2⟩ := hi
    refine vals_of_at (by simp [h1]) fun j x u e1 e2 => ?_
    obtain ⟨c, tk', ec, rfl⟩ := h2 j u (by simpa using e2)
    rw [List.getElem?_map, Array.getElem?_toList, ec] at e1
    cases e1
    exact ⟨_, rfl⟩
  have I2 : Inv X pins σ (upd H s.heap.objs.size (.lst (z.cps.toList.map fun c => V.str ⟨#[c]⟩))) { s with heap := h', toks := tk } :=
    I.laid hk (Nat.le_refl _) ⟨by rw [List.length_map, Array.length_toList]; exact hz, acc'.toList, c', hv, by simpa using hS⟩
  exact ⟨.ref s.heap.objs.size, _, I2, rfl, q _ (I.hok.fresh (Nat.le_refl _))⟩
theorem ca_list (hc : X.calm = true) : DCa X (.type "list") cList := dca_of (call_list_of.or (call_listS hc)) fun xs H Q ⟨ds, h, Qd, rp, rh, q, o⟩ => by
  unfold cList at q
  split at q
  · cases rp with
    | cons r1 r2 =>
      cases r2
      cases r1 with
      | t sq r => exact .inl ⟨_, _, rfl, .inr sq, fun l hl => o _ _ _ _ (q l (rh.free hl)) (Go.new rh hl ⟨_, rfl, r.stb (Stb.new hl)⟩) (.v _)⟩
  · cases rp with
    | cons r1 r2 =>
      cases r1; cases r2
      refine .inr ⟨_, rfl, q.1, fun l hl => o _ _ _ _ (q.2 l (rh.free hl)) (Go.new rh hl ⟨_, rfl, ?_⟩) (.v _)⟩
      unfold chars
      have := Rps.mapV (K := X.gv.K) (H := upd H l (.lst ((‹Str›).cps.toList.map fun c => V.str ⟨#[c]⟩))) (xs := (‹Str›).cps.toList.map fun c => V.str ⟨#[c]⟩)
      rw [List.map_map] at this
      exact this
  · split at q
    · rename_i ys e
      cases rp with
      | cons r1 r2 =>
        cases r1; cases r2
        obtain ⟨vs, sq, r⟩ := rdL_ok rh e
        exact .inl ⟨_, _, rfl, .inl sq, fun l hl => o _ _ _ _ (q l (rh.free hl)) (Go.new rh hl ⟨_, rfl, r.stb (Stb.new hl)⟩) (.v _)⟩
    · exact q.elim
  · exact q.elim
theorem kit_sub {m n : String} (hm : m = "NoneType" ∨ m = "bool" ∨ m = "int" ∨ m = "str" ∨ m = "tuple" ∨ m = "list" ∨ m = "dict") (hn : tyKnown n = true) : kitB m n = some (subTy m n) := by
  have hn' : n = "int" ∨ n = "bool" ∨ n = "str" ∨ n = "tuple" ∨ n = "list" ∨ n = "dict" := by
    unfold tyKnown at hn
    simp only [Bool.or_eq_true, beq_iff_eq] at hn
    rcases hn with ((((hn | hn) | hn) | hn) | hn) | hn
    · exact .inl hn
    · exact .inr (.inl hn)
    · exact .inr (.inr (.inl hn))
    · exact .inr (.inr (.inr (.inl hn)))
    · exact .inr (.inr (.inr (.inr (.inl hn))))
    · exact .inr (.inr (.inr (.inr (.inr hn))))
  rcases hm with rfl | rfl | rfl | rfl | rfl | rfl | rfl <;> rcases hn' with rfl | rfl | rfl | rfl | rfl | rfl <;> decide +kernel
theorem ty_ok {K : PySem.W.Frag} {H : Hp} {h : Hd} {G : Gv} (eK : G.K = K) {d : D} {x : V} {m : String} (rp : Rp K H d x) (rh : RelH G H h) (e : tyName d h = some m) : TyX K H x (.type m) ∧ (m = "NoneType" ∨ m = "bool" ∨ m = "int" ∨ m = "str" ∨ m = "tuple" ∨ m = "list" ∨ m = "dict") := by
  cases rp with
  | t sq r =>
    cases e
    refine ⟨?_, by decide⟩
    rcases sq with (sq | ⟨o, sq⟩) | ⟨o, its, n, hk, hc, _⟩
    · exact .base (.tup sq)
    · exact .fTuple sq
    · exact .kTuple hk hc
  | k => cases e
  | v =>
    cases x with
    | non => cases e; exact ⟨.base .non, by decide⟩
    | bl b => cases e; exact ⟨.base (.bl b), by decide⟩
    | int i => cases e; exact ⟨.base (.int i), by decide⟩
    | str z => cases e; exact ⟨.base (.str z), by decide⟩
    | ref a =>
      have e : (match h a with
        | some (.lst _) => some "list"
        | some (.dk _) => some "dict"
        | _ => none) = some m := e
      subst eK
      split at e
      · rename_i q
        cases e
        obtain ⟨u, hu, vs, rfl, _⟩ := rh a _ q
        exact ⟨.base (.lst hu), by decide⟩
      · rename_i q
        cases e
        obtain ⟨u, hu, vs, rfl, _⟩ := rh a _ q
        exact ⟨.base (.dK hu), by decide⟩
      · cases e
    | _ => cases e
theorem ca_isi : DCa X (.builtin "isinstance") cIsi := dca_of call_isi fun xs H Q ⟨ds, h, Qd, rp, rh, q, o⟩ => by
  unfold cIsi at q
  split at q
  · split at q
    · rename_i m em
      cases rp with
      | cons r1 r2 =>
        cases r2 with
        | cons r2 r3 =>
          cases r2; cases r3
          obtain ⟨ty, hm⟩ := ty_ok (G := X.gv) rfl r1 rh em
          exact ⟨_, _, _, _, _, rfl, .ty _, ty, kit_ty (kit_sub hm q.1), o _ h _ H q.2 (Go.refl rh) (.v _)⟩
    · exact q.elim
  · exact q.elim
end
end DL
namespace DL
open PySem L2
def setL : SetD := fun o i v h Q => match o, i with
  | .v (.ref a), .v (.int k) => match h a with
    | some (.lst xs) => (match ixN xs.length k with
      | some j => Q (put h a (.lst (xs.set j v)))
      | none => False)
    | _ => False
  | _, _ => False
section
variable {X : Cx} {B : Bs}
theorem dset_list : DSet X setL := fun pins s σ H o i v ov iv u Q I ro ri ru ⟨od, id, vd, h, Qd, po, pi, pv, rh, q, out⟩ => by
  refine set_list pins s σ H o i v ov iv u Q I ro ri ru ?_
  unfold setL at q
  split at q
  · split at q
    · rename_i a k _ xs e
      split at q
      · rename_i j ej
        cases po; cases pi
        obtain ⟨vs, hv, r⟩ := lst_ok rh e
        refine ⟨_, vs, _, j, rfl, rfl, hv, by rw [← r.length]; exact ej, out _ _ q (Go.set rh e hv trivial ⟨_, rfl, ?_⟩)⟩
        exact (r.set pv j).stb (Stb.set hv trivial)
      · exact q.elim
    · exact q.elim
  · exact q.elim
abbrev MD := D → List D → Hd → KD → Prop
def lM (G : Gv) (r : MD) : V → List V → Hp → VK → Prop := fun xV vs H QV => ∃ x ds h Q, Rp G.K H x xV ∧ Rps G.K H ds vs ∧ RelH G H h ∧ r x ds h Q ∧ OutE G H h Q QV
def DMt (X : Cx) (id : String) (r : MD) : Prop := MtR X id (lM X.gv r)
def tyM (T : String) (x : D) (h : Hd) : Prop := match x with
  | .v (.str _) => T = "str"
  | .v (.ref a) => match h a with
    | some (.lst _) => T = "list"
    | some (.dk _) => T = "dict"
    | _ => False
  | _ => False
theorem tyM_ok {G : Gv} {H : Hp} {h : Hd} {T : String} {x : D} {xV : V} (rp : Rp G.K H x xV) (rh : RelH G H h) (e : tyM T x h) : tyV G.K T xV H := by
  cases rp with
  | t => exact e.elim
  | k => exact e.elim
  | v =>
    cases xV with
    | str => exact e
    | ref a =>
      have e : (match h a with
        | some (.lst _) => T = "list"
        | some (.dk _) => T = "dict"
        | _ => False) := e
      split at e
      · rename_i q
        obtain ⟨u, hu, vs, rfl, _⟩ := rh a _ q
        exact .inl ⟨e, vs, SqL.of hu⟩
      · rename_i q
        obtain ⟨u, hu, vs, rfl, _⟩ := rh a _ q
        exact .inr (.inr (.inl ⟨e, .inl ⟨vs, hu⟩⟩))
      · exact e.elim
    | _ => exact e.elim
def dBM (T : String) (r : MD) (to : ED) (t : AD) : ED := fun σ h Q => to σ h fun x h1 => tyM T x h1 ∧ t σ h1 fun ds h2 => r x ds h2 Q
def dBM0 (T : String) (r : MD) (to : ED) : ED := fun σ h Q => to σ h fun x h1 => tyM T x h1 ∧ r x [] h1 Q
variable {o e : Expr} {es : List Expr} {to : ED} {t : AD} {name : Str} {apos cpos : Pos} {T id : String} {r : MD}
theorem de_bm (pa : PlainAttrs T) (slot : Slot T name id) (hty : typeOf (.builtin id) = pure (.type "method_descriptor")) (hm : DMt X id r) (ho : DE X B o to) (ha : DA X B (e :: es) t)
    (hbase : attributeBase o name X.env (eval o X.env) = eval o X.env := by rfl)
    (hfew : ((backTo cpos (starEach (e :: es) X.env)).all (fun x => !x.1) && (backToKw cpos (keywordEach [] X.env)).all (fun x => x.1.isSome)
      && decide ((e :: es).length + ([] : List Keyword).length + (if ([] : List Keyword).isEmpty then 0 else 1) < 30)) = true := by rfl)
    (hline : (apos.endLine == cpos.line) = true := by rfl) (hs : starEach (e :: es) X.env = (false, eval e X.env) :: starEach es X.env := by rfl) (hplain : (backTo cpos (starEach es X.env)).any (·.1) = false := by rfl) :
    DE X B (.Call (.Attribute o name apos) (e :: es) [] cpos) (dBM T r to t) :=
  PE.imp (pe_bm pa slot hty hm ho ha hbase hfew hline hs hplain) fun σV H QV ⟨σ, h, Q, r0, q, out⟩ => ⟨σ, h, _, r0, q, fun x h1 xV H1 q1 g1 rx =>
    ⟨tyM_ok rx g1.rh q1.1, σ, h1, _, r0.next g1, q1.2, fun ds h2 vs H2 q2 g2 rv _ => ⟨x, ds, h2, Q, rx.stb g2.st, rv, g2.rh, q2, out.on (g1.trans g2)⟩⟩⟩
theorem de_bm0 (pa : PlainAttrs T) (slot : Slot T name id) (hty : typeOf (.builtin id) = pure (.type "method_descriptor")) (hm : DMt X id r) (ho : DE X B o to)
    (hbase : attributeBase o name X.env (eval o X.env) = eval o X.env := by rfl) (hline : (apos.endLine == cpos.line) = true := by rfl) : DE X B (.Call (.Attribute o name apos) [] [] cpos) (dBM0 T r to) :=
  PE.imp (pe_bm0 pa slot hty hm ho hbase hline) fun σV H QV ⟨σ, h, Q, r0, q, out⟩ => ⟨σ, h, _, r0, q, fun x h1 xV H1 q1 g1 rx =>
    ⟨tyM_ok rx g1.rh q1.1, x, [], h1, Q, rx, .nil, g1.rh, q1.2, out.on g1⟩⟩
theorem dmt_of {X : Cx} {id : String} {r : V → List V → Hp → VK → Prop} {rd : MD} (hm : MtR X id r) (w : ∀ x xs H Q, lM X.gv rd x xs H Q → r x xs H Q) : DMt X id rd := fun pins s σ H x xs v us Q I rx rv h => hm pins s σ H x xs v us Q I rx rv (w x xs H Q h)
def mAppend : MD := fun x ds h Q => match x, ds with
  | .v (.ref a), [y] => match h a with
    | some (.lst xs) => xs.length < sizeLine ∧ Q (.v .non) (put h a (.lst (xs ++ [y])))
    | _ => False
  | _, _ => False
theorem dm_append : DMt X "list.append" mAppend := dmt_of mt_append fun x xs H Q ⟨dx, ds, h, Qd, rx, rv, rh, q, o⟩ => by
  unfold mAppend at q
  split at q
  · split at q
    · rename_i e
      cases rx
      cases rv with
      | cons r1 r2 =>
        cases r2
        obtain ⟨vs, hv, r⟩ := lst_ok rh e
        exact ⟨_, vs, _, rfl, rfl, hv, by rw [← r.length]; exact q.1, o _ _ _ _ q.2 (Go.set rh e hv trivial ⟨_, rfl, (r.append (.cons r1 .nil)).stb (Stb.set hv trivial)⟩) (.v _)⟩
    · exact q.elim
  · exact q.elim
def strsD : List D → Option (List Str)
  | [] => some []
  | .v (.str z) :: r => match strsD r with
    | some zs => some (z :: zs)
    | none => none
  | _ => none
theorem strsD_ok : ∀ {ds : List D} {zs : List Str}, strsD ds = some zs → ds = zs.map fun z => .v (.str z)
  | [], zs, h => by cases h; rfl
  | .v (.str z) :: r, zs, h => by
    unfold strsD at h
    split at h
    · rename_i q
      cases h
      rw [strsD_ok q]; rfl
    · cases h
  | .v .non :: _, _, h => by cases h
  | .v (.bl _) :: _, _, h => by cases h
  | .v (.int _) :: _, _, h => by cases h
  | .v (.byt _) :: _, _, h => by cases h
  | .v (.flt _) :: _, _, h => by cases h
  | .v (.ref _) :: _, _, h => by cases h
  | .v (.ty _) :: _, _, h => by cases h
  | .t _ :: _, _, h => by cases h
theorem strsD_map (zs : List Str) : strsD (zs.map fun z => .v (.str z)) = some zs := by
  induction zs with
  | nil => rfl
  | cons z r ih => rw [List.map_cons, strsD, ih]
theorem rps_strs {K : PySem.W.Frag} {H : Hp} {zs : List Str} {vs : List V} (r : Rps K H (zs.map fun z => .v (.str z)) vs) : vs = zs.map V.str := by
  refine Rps.ofV (K := K) (H := H) ?_
  rw [List.map_map]
  exact r
def lkS (kvs : List (Str × D)) (z : Str) : Option D := match kvs with
  | [] => none
  | (k, d) :: r => if z = k then some d else lkS r z
structure KC (K : PySem.W.Frag) (mg : Str → Option Value) (x : Str) (d : D) : Prop where
  ex : ∃ u v, mg x = some u ∧ RelV v u ∧ ∀ H, Rp K H d v
theorem de_gc {x : Str} {d : D} {pos : Pos} (k : KC X.K X.mg x d) (hg : Gl X x := by rfl) (hd : (x == ("__debug__" : Str)) = false := by decide) : DE X B (.Name x pos) (dC d) := by
  obtain ⟨u, v, m, r, rp⟩ := k.ex
  exact de_glob hg m r rp hd
theorem u50 {k : Nat} {A : Around} (hr : Room k A) : A.units + 50 < cLine := by have := hr.units; omega
end
end DL
namespace DL
open PySem L2
def valN (kvs : List (D × D)) (k : D) : Option D := match kvs with
  | [] => none
  | p :: r => if nkd p.1 = nkd k then some p.2 else valN r k
def putN (kvs : List (D × D)) (k v : D) : List (D × D) := if (valN kvs k).isSome then kvs.map fun p => if nkd p.1 = nkd k then (p.1, v) else p else kvs ++ [(k, v)]
def nkT : D → Bool
  | .t ds => nksOk 7 ds
  | _ => false
theorem nkT_ok {d : D} (h : nkT d = true) : ∃ ds, d = .t ds ∧ nkOk 8 d = true := by
  cases d with
  | t ds => exact ⟨ds, rfl, h⟩
  | v x => cases h
  | k ds => cases h
mutual
theorem nk_depth : ∀ (d : D) (n : Nat), nkOk n d = true → (nkd d).depth ≤ n
  | .v .non, n, _ => Nat.zero_le _
  | .v (.bl _), n, _ => Nat.zero_le _
  | .v (.int _), n, _ => Nat.zero_le _
  | .v (.str _), n, _ => Nat.zero_le _
  | .v (.byt _), 0, h => by cases h
  | .v (.byt _), _ + 1, h => by cases h
  | .v (.flt _), 0, h => by cases h
  | .v (.flt _), _ + 1, h => by cases h
  | .v (.ref _), 0, h => by cases h
  | .v (.ref _), _ + 1, h => by cases h
  | .v (.ty _), 0, h => by cases h
  | .v (.ty _), _ + 1, h => by cases h
  | .k _, 0, h => by cases h
  | .k _, _ + 1, h => by cases h
  | .t _, 0, h => by cases h
  | .t ds, n + 1, h => by
    show NestedKey.depthAll (nkds ds) + 1 ≤ n + 1
    exact Nat.succ_le_succ (nks_depth ds n h)
theorem nks_depth : ∀ (ds : List D) (n : Nat), nksOk n ds = true → NestedKey.depthAll (nkds ds) ≤ n
  | [], n, _ => Nat.zero_le _
  | d :: ds, n, h => by
    unfold nksOk at h
    rw [Bool.and_eq_true] at h
    show max (nkd d).depth (NestedKey.depthAll (nkds ds)) ≤ n
    exact Nat.max_le.mpr ⟨nk_depth d n h.1, nks_depth ds n h.2⟩
end
section
variable {X : Cx} {pins : List (Addr × Obj)} {σ : St} {H : Hp} {s : Shared}
mutual
theorem nested_of (I : Inv X pins σ H s) : ∀ (d : D) (n : Nat) (v : V) (u : Value), nkOk n d = true → Rp X.K H d v → RelV v u → NestedIs s.heap (nkd d) u
  | .v .non, n, _, u, _, .v _, e => by
    rw [show u = Value.none from e]; exact .none
  | .v (.bl b), n, _, u, _, .v _, e => by
    rw [show u = Value.bool b from e]; exact .bool rfl
  | .v (.int i), n, _, u, _, .v _, e => by
    obtain ⟨t, e⟩ := (show ∃ t, u = Value.int i t from e)
    rw [e]; exact .int i t
  | .v (.str z), n, _, u, _, .v _, e => by
    obtain ⟨t, e⟩ := (show ∃ t, u = Value.str z t from e)
    rw [e]; exact .text z t
  | .v (.byt _), 0, _, _, h, _, _ => by cases h
  | .v (.byt _), _ + 1, _, _, h, _, _ => by cases h
  | .v (.flt _), 0, _, _, h, _, _ => by cases h
  | .v (.flt _), _ + 1, _, _, h, _, _ => by cases h
  | .v (.ref _), 0, _, _, h, _, _ => by cases h
  | .v (.ref _), _ + 1, _, _, h, _, _ => by cases h
  | .v (.ty _), 0, _, _, h, _, _ => by cases h
  | .v (.ty _), _ + 1, _, _, h, _, _ => by cases h
  | .k _, 0, _, _, h, _, _ => by cases h
  | .k _, _ + 1, _, _, h, _, _ => by cases h
  | .t _, 0, _, _, h, _, _ => by cases h
  | .t ds, n + 1, _, u, h, .t sq r, e => by
    rw [show u = Value.ref _ from e]
    obtain ⟨its, rv, ⟨o, eo, c, m, d⟩, _⟩ := I.tuple sq.sq
    exact .tup eo c d (by simpa using nesteds_of I ds n _ its h r rv)
theorem nesteds_of (I : Inv X pins σ H s) : ∀ (ds : List D) (n : Nat) (vs : List V) (us : List Value), nksOk n ds = true → Rps X.K H ds vs → Vals vs us → NestedAll s.heap (nkds ds) us
  | [], n, _, _, _, .nil, .nil => .nil
  | d :: ds, n, _, _, h, .cons r rr, .cons e ee => by
    unfold nksOk at h
    rw [Bool.and_eq_true] at h
    exact .cons (nested_of I d n _ _ h.1 r e) (nesteds_of I ds n _ _ h.2 rr ee)
end
theorem nd_key (I : Inv X pins σ H s) {d : D} {a : Addr} (h : nkOk 8 d = true) (r : Rp X.K H d (.ref a)) : (nestedKind X.prog X.w).is s.heap (nkd d) a :=
  ⟨nested_of I d 8 _ _ h r rfl, nk_depth d 8 h⟩
theorem nd_at (I : Inv X pins σ H s) {h : Hd} {a : Addr} {kvs : List (D × D)} (rh : RelH X.gv H h) (e : h a = some (.dn kvs)) :
    ∃ xs, H a = some (.ext (ndOk X.w a xs)) ∧ Paired (RpN X.gv H) kvs xs ∧ s.heap.DictOfH (nestedKind X.prog X.w) a xs ∧ kvs.length ≤ sizeLine ∧ (a == sysModules) = false := by
  obtain ⟨u, hu, hl, hn, xs, rfl, r⟩ := rh a _ e
  refine ⟨xs, hu, r, ?_, hl, hn⟩
  obtain ⟨⟨o, es, ep, h1, h2, h3, h4, h5⟩, _⟩ := I.hok a _ hu
  refine ⟨o, es, ep, h1, h2, h3, h4, ?_, h5⟩
  have all : ∀ {kvs : List (D × D)} {xs : List (NestedKey × Addr × Value)}, Paired (RpN X.gv H) kvs xs → ∀ x ∈ xs, (nestedKind X.prog X.w).is s.heap x.1 x.2.1 := by
    intro kvs xs q
    induction q with
    | nil => intro x hx; cases hx
    | cons z t ih =>
      intro x hx
      rcases List.mem_cons.mp hx with rfl | hx
      · obtain ⟨e1, e2, e3, _⟩ := z
        rw [← e1]
        exact nd_key I e2 e3
      · exact ih x hx
  exact all r
theorem valN_rel {G : Gv} {k : D} : ∀ {kvs : List (D × D)} {xs : List (NestedKey × Addr × Value)}, Paired (RpN G H) kvs xs →
    (∀ d, valN kvs k = some d → ∃ p v, atKey xs (nkd k) = some p ∧ RelV v p.2 ∧ Rp G.K H d v) ∧ (valN kvs k = none → atKey xs (nkd k) = none)
  | _, _, .nil => ⟨fun _ e => (by cases e), fun _ => rfl⟩
  | p :: r, q :: s, .cons h t => by
    obtain ⟨h1, h2, h3, v, h4, h5⟩ := h
    have ih := valN_rel (k := k) t
    unfold valN atKey
    by_cases e : nkd p.1 = nkd k
    · rw [if_pos e, List.find?_cons, show decide (q.1 = nkd k) = true from decide_eq_true (by rw [← h1]; exact e)]
      exact ⟨fun d e => (by cases e; exact ⟨_, v, rfl, h4, h5⟩), fun e => (by cases e)⟩
    · rw [if_neg e, List.find?_cons, show decide (q.1 = nkd k) = false from decide_eq_false (by rw [← h1]; exact e)]
      exact ih
theorem valN_some {G : Gv} {k : D} {kvs : List (D × D)} {xs : List (NestedKey × Addr × Value)} (r : Paired (RpN G H) kvs xs) : (atKey xs (nkd k)).isSome = (valN kvs k).isSome := by
  have z := valN_rel (k := k) r
  cases e : valN kvs k with
  | none => rw [z.2 e]; rfl
  | some d => obtain ⟨p, v, ep, _⟩ := z.1 d e; rw [ep]; rfl
theorem putN_rel {G : Gv} {k d : D} {b : Addr} {v : V} {u : Value} {kvs : List (D × D)} {xs : List (NestedKey × Addr × Value)} (r : Paired (RpN G H) kvs xs) (hk : nkOk 8 k = true) (rk : Rp G.K H k (.ref b)) (rv : RelV v u) (rd : Rp G.K H d v) :
    Paired (RpN G H) (putN kvs k d) (storedH xs (nkd k) b u) := by
  unfold putN storedH
  rw [valN_some r]
  split
  · have go : ∀ {kvs : List (D × D)} {xs : List (NestedKey × Addr × Value)}, Paired (RpN G H) kvs xs → Paired (RpN G H) (kvs.map fun p => if nkd p.1 = nkd k then (p.1, d) else p) (xs.map (putAt (nkd k) u)) := by
      intro kvs xs r
      induction r with
      | nil => exact .nil
      | @cons p q ps qs h t ih =>
        refine .cons ?_ ih
        obtain ⟨h1, h2, h3, h4⟩ := h
        unfold putAt
        by_cases e : nkd p.1 = nkd k
        · simp only [if_pos e, if_pos (h1 ▸ e : q.1 = nkd k)]
          exact ⟨h1, h2, h3, v, rv, rd⟩
        · simp only [if_neg e, if_neg (h1 ▸ e : ¬ q.1 = nkd k)]
          exact ⟨h1, h2, h3, h4⟩
    exact go r
  · have app : ∀ {kvs : List (D × D)} {xs : List (NestedKey × Addr × Value)}, Paired (RpN G H) kvs xs → Paired (RpN G H) (kvs ++ [(k, d)]) (xs ++ [(nkd k, b, u)]) := by
      intro kvs xs r
      induction r with
      | nil => exact .cons ⟨rfl, hk, rk, v, rv, rd⟩ .nil
      | cons h t ih => exact .cons h ih
    exact app r
theorem putN_len (kvs : List (D × D)) (k v : D) : (putN kvs k v).length ≤ kvs.length + 1 := by
  unfold putN
  split
  · rw [List.length_map]; exact Nat.le_succ _
  · rw [List.length_append]; exact Nat.le_refl _
theorem nd_ext {P : Program} {w : World} {H' : Hp} {h : Heap} {a : Addr} {xs : List (NestedKey × Addr × Value)} (x : ndOk w a xs h) : ObjOk P w H' h a (.ext (ndOk w a xs)) := by
  obtain ⟨o, es, ep, e, r⟩ := x
  exact ⟨⟨o, es, ep, e, r⟩, ⟨o, e⟩, fun h1 h2 ⟨o, es, ep, e, r⟩ k => ⟨o, es, ep, k _ e, r⟩⟩
theorem nd_of {w : World} {P : Program} {h : Heap} {a : Addr} {xs : List (NestedKey × Addr × Value)} (x : h.DictOfH (nestedKind P w) a xs) : ndOk w a xs h := by
  obtain ⟨o, es, ep, h1, h2, h3, h4, h5, h6⟩ := x
  exact ⟨o, es, ep, h1, h2, h3, h4, h6⟩
variable {A : Around} {E : Value → Shared → Prop} {a b : Addr} {h : Hd} {kvs : List (D × D)} {k d : D}
theorem nd_getItem {Q : Value → Shared → Prop} (hu : A.units + 9 < cLine) (I : Inv X pins σ H s) (rh : RelH X.gv H h) (e : h a = some (.dn kvs)) (hk : nkT k = true) (rk : Rp X.K H k (.ref b)) (l : valN kvs k = some d)
    (q : ∀ v u s', Inv X pins σ H s' → RelV v u → Rp X.K H d v → Q u s') : wpAny (model X.prog X.w) A (getItem (.ref a) (.ref b)) Q E s := by
  obtain ⟨xs, hu', r, dd, hl, hn⟩ := nd_at I rh e
  obtain ⟨_, _, ok⟩ := nkT_ok hk
  obtain ⟨p, v, ep, rv, rd⟩ := (valN_rel (k := k) r).1 d l
  exact wpAny_getItem_heap (knd := nestedKind X.prog X.w) (show A.in1.units + 8 < cLine by rw [Around.in1_units]; omega) (nd_key I ok rk) dd ep (q v _ _ (I.tok _) rv rd)
theorem nd_in {Q : Value → Shared → Prop} (hu : A.units + 9 < cLine) (I : Inv X pins σ H s) (rh : RelH X.gv H h) (e : h a = some (.dn kvs)) (hk : nkT k = true) (rk : Rp X.K H k (.ref b))
    (q : ∀ s', Inv X pins σ H s' → Q (.bool (valN kvs k).isSome) s') : wpAny (model X.prog X.w) A (compareOp .In (.ref b) (.ref a)) Q E s := by
  obtain ⟨xs, hu', r, dd, hl, hn⟩ := nd_at I rh e
  obtain ⟨_, _, ok⟩ := nkT_ok hk
  refine wpAny_in_heap (knd := nestedKind X.prog X.w) (show A.in1.units + 8 < cLine by rw [Around.in1_units]; omega) (nd_key I ok rk) hn dd ?_
  rw [valN_some r]
  exact q _ (I.tok _)
theorem nd_notIn {Q : Value → Shared → Prop} (hu : A.units + 9 < cLine) (I : Inv X pins σ H s) (rh : RelH X.gv H h) (e : h a = some (.dn kvs)) (hk : nkT k = true) (rk : Rp X.K H k (.ref b))
    (q : ∀ s', Inv X pins σ H s' → Q (.bool (!(valN kvs k).isSome)) s') : wpAny (model X.prog X.w) A (compareOp .NotIn (.ref b) (.ref a)) Q E s := by
  obtain ⟨xs, hu', r, dd, hl, hn⟩ := nd_at I rh e
  obtain ⟨_, _, ok⟩ := nkT_ok hk
  refine PyProof.Rows.wpAny_notIn_heap (knd := nestedKind X.prog X.w) (show A.in1.units + 8 < cLine by rw [Around.in1_units]; omega) (nd_key I ok rk) hn dd ?_
  rw [valN_some r]
  exact q _ (I.tok _)
theorem nd_go {xs' : List (NestedKey × Addr × Value)} {kvs' : List (D × D)} {φ : Heap → Prop} (rh : RelH X.gv H h) (e : h a = some (.dn kvs)) (hv : H a = some (.ext φ)) (hn : (a == sysModules) = false) (r : Paired (RpN X.gv H) kvs' xs') (hl : kvs'.length ≤ sizeLine) :
    Go X.gv H h (upd H a (.ext (ndOk X.w a xs'))) (put h a (.dn kvs')) :=
  Go.set rh e hv trivial ⟨hl, hn, xs', rfl, Paired.mapP r fun _ _ z => z.stb (Stb.set hv trivial)⟩
theorem nd_setItem {v : V} {u : Value} {Q : Unit → Shared → Prop} (hu : A.units + 9 < cLine) (I : Inv X pins σ H s) (rh : RelH X.gv H h) (e : h a = some (.dn kvs)) (hk : nkT k = true) (rk : Rp X.K H k (.ref b)) (rv : RelV v u) (rd : Rp X.K H d v)
    (hl : kvs.length < sizeLine) (q : ∀ H' s', Inv X pins σ H' s' → Go X.gv H h H' (put h a (.dn (putN kvs k d))) → Q () s') : wpAny (model X.prog X.w) A (setItem (.ref a) (.ref b) u) Q E s := by
  obtain ⟨xs, hu', r, dd, hl', hn⟩ := nd_at I rh e
  obtain ⟨_, _, ok⟩ := nkT_ok hk
  have hx : xs.length ≤ sizeLine := by rw [← Paired.length r]; exact hl'
  refine wpAny_setItem_heap (knd := nestedKind X.prog X.w) (hsz := hx) (show A.in1.units + 8 < cLine by rw [Around.in1_units]; omega) (nd_key I ok rk) dd fun h' dd' hs => ?_
  have nd := nd_of dd'
  have he : ∃ q, h'.get? a = some q := by obtain ⟨o, _, _, eo, _⟩ := nd; exact ⟨o, eo⟩
  refine q _ _ (d_write (t' := s.toks + (nestedKind X.prog X.w).draws (nkd k)) I (by rw [hu']; exact True.intro) hs he (nd_ext nd)) (nd_go rh e hu' hn (putN_rel r ok rk rv rd) ?_)
  have := putN_len kvs k d
  omega
end
end DL
namespace DL
open PySem L2
def keyD : D → Option Key
  | .v (.int i) => some (.inl i)
  | .v (.str z) => some (.inr z)
  | _ => none
theorem keyD_ok {d : D} {k : Key} (e : keyD d = some k) : d = .v (kV k) := by
  unfold keyD at e
  split at e <;> cases e <;> rfl
section
variable {κ : Type} [DecidableEq κ]
def valD (kvs : List (κ × D)) (k : κ) : Option D := match kvs with
  | [] => none
  | p :: r => if p.1 = k then some p.2 else valD r k
def putD (kvs : List (κ × D)) (k : κ) (v : D) : List (κ × D) := if (valD kvs k).isSome then kvs.map fun kv => if kv.1 = k then (kv.1, v) else kv else kvs ++ [(k, v)]
theorem valD_rel {G : Gv} {H : Hp} {k : κ} : ∀ {kvs : List (κ × D)} {vs : List (κ × V)}, RpK G H kvs vs → (∀ d, valD kvs k = some d → ∃ v, valV vs k = some v ∧ Rp G.K H d v) ∧ (valD kvs k = none → valV vs k = none)
  | _, _, .nil => ⟨fun _ e => (by cases e), fun _ => rfl⟩
  | p :: r, q :: s, .cons h t => by
    obtain ⟨h1, h2⟩ := h
    have ih := valD_rel (k := k) t
    unfold valD
    by_cases e : p.1 = k
    · rw [if_pos e, valV_pos (by rw [← h1]; exact e)]
      exact ⟨fun d e => (by cases e; exact ⟨_, rfl, h2⟩), fun e => (by cases e)⟩
    · rw [if_neg e, valV_neg (by rw [← h1]; exact e)]
      exact ih
theorem valD_some {G : Gv} {H : Hp} {k : κ} {kvs : List (κ × D)} {vs : List (κ × V)} (r : RpK G H kvs vs) : (valD kvs k).isSome = (valV vs k).isSome := by
  have z := valD_rel (k := k) r
  cases e : valD kvs k with
  | none => rw [z.2 e]; rfl
  | some d => obtain ⟨v, ev, _⟩ := z.1 d e; rw [ev]; rfl
theorem putD_rel {G : Gv} {H : Hp} {k : κ} {d : D} {v : V} {kvs : List (κ × D)} {vs : List (κ × V)} (r : RpK G H kvs vs) (rv : Rp G.K H d v) : RpK G H (putD kvs k d) (putK vs k v) := by
  have any : (vs.any fun kv => decide (kv.1 = k)) = (valV vs k).isSome := valV_any k vs
  unfold putD
  rw [valD_some r]
  unfold putK
  rw [any]
  split
  · have go : ∀ {kvs : List (κ × D)} {vs : List (κ × V)}, RpK G H kvs vs → RpK G H (kvs.map fun kv => if kv.1 = k then (kv.1, d) else kv) (vs.map fun kv => if kv.1 = k then (kv.1, v) else kv) := by
      intro kvs vs r
      unfold RpK at r
      induction r with
      | nil => exact .nil
      | @cons p q ps qs h t ih =>
        refine .cons ?_ ih
        obtain ⟨h1, h2⟩ := h
        by_cases e : p.1 = k
        · simp only [if_pos e, if_pos (h1 ▸ e : q.1 = k)]
          exact ⟨h1, rv⟩
        · simp only [if_neg e, if_neg (h1 ▸ e : ¬ q.1 = k)]
          exact ⟨h1, h2⟩
    exact go r
  · have app : ∀ {kvs : List (κ × D)} {vs : List (κ × V)}, RpK G H kvs vs → RpK G H (kvs ++ [(k, d)]) (vs ++ [(k, v)]) := by
      intro kvs vs r
      unfold RpK at r
      induction r with
      | nil => exact .cons ⟨rfl, rv⟩ .nil
      | cons h t ih => exact .cons h ih
    exact app r
end
theorem RpK.len {κ : Type} {G : Gv} {H : Hp} {kvs : List (κ × D)} {vs : List (κ × V)} (r : RpK G H kvs vs) : kvs.length = vs.length := Paired.length r
section
variable {X : Cx} {pins : List (Addr × Obj)} {σ : St} {H : Hp} {s : Shared} {A : Around} {E : Value → Shared → Prop}
end
theorem ix_dict {X : Cx} (hu : X.A.units + 1 < cLine) : IxR X (fun x y H Q => ∃ a v, x = .ref a ∧ DGet H a y (some v) ∧ Q v H) := by
  intro value slice pins s σ H x y v u Q I rx ry h hs
  obtain ⟨a, z, rfl, g, q⟩ := h
  obtain rfl : v = Value.ref a := rx
  exact PyProof.Rows.tail_any (dict_typeIs I g) PySem.F.slot_dict_getitem.lookup (d_getItem hu I g ry fun w' s3 I3 rw' => ⟨z, H, I3, rw', q⟩) hs
theorem dget_dk {G : Gv} {H : Hp} {h : Hd} {a : Addr} {kvs : List (Key × D)} {k : Key} {d : D} (rh : RelH G H h) (e : h a = some (.dk kvs)) (l : valD kvs k = some d) : ∃ v, DGet H a (kV k) (some v) ∧ Rp G.K H d v := by
  obtain ⟨vs, hv, r⟩ := dk_ok rh e
  obtain ⟨v, ev, rv⟩ := (valD_rel (k := k) r).1 d l
  exact ⟨v, .inl ⟨vs, k, .inl hv, rfl, ev.symm⟩, rv⟩
def pIt : R2d := fun x y h Q => match x with
  | .v (.ref a) => match h a with
    | some (.dk kvs) => (match keyD y with
      | some k => (match valD kvs k with
        | some d => Q d h
        | none => False)
      | none => False)
    | some (.dn kvs) => nkT y = true ∧ (match valN kvs y with
      | some d => Q d h
      | none => False)
    | _ => pIx x y h Q
  | _ => pIx x y h Q
def rNd (G : Gv) (xv yv : V) (H : Hp) (QV : VK) : Prop := ∃ a b k kvs d h Q, xv = .ref a ∧ yv = .ref b ∧ RelH G H h ∧ h a = some (.dn kvs) ∧ nkT k = true ∧ Rp G.K H k (.ref b) ∧ valN kvs k = some d ∧ Q d h ∧ OutE G H h Q QV
theorem ix_nd {X : Cx} (hu : X.A.units + 9 < cLine) : IxR X (rNd X.gv) := by
  intro value slice pins s σ H x y v u Q I rx ry hh hs
  obtain ⟨a, b, k, kvs, d, h, Q', rfl, rfl, rh, e, hk, rk, l, q, o⟩ := hh
  obtain rfl : v = Value.ref a := rx
  obtain rfl : u = Value.ref b := ry
  obtain ⟨_, _, _, dd, _, _⟩ := nd_at I rh e
  exact PyProof.Rows.tail_any dd.typeIs PySem.F.slot_dict_getitem.lookup (nd_getItem hu I rh e hk rk l fun v' u' s' I' rv rd => ⟨v', H, I', rv, o _ _ _ _ q (Go.refl rh) rd⟩) hs
theorem nd_ref {K : PySem.W.Frag} {H : Hp} {d : D} {v : V} (hk : nkT d = true) (r : Rp K H d v) : ∃ b, v = .ref b := by
  obtain ⟨ds, rfl, _⟩ := nkT_ok hk
  cases r with
  | t => exact ⟨_, rfl⟩
section
variable {X : Cx} {B : Bs} {a b : Expr} {ta tb : ED} {pos : Pos}
theorem ix_seqD {x y : D} {h : Hd} {Q : KD} {H : Hp} {xv yv : V} {QV : VK} (rx : Rp X.K H x xv) (ry : Rp X.K H y yv) (rh : RelH X.gv H h) (q : pIx x y h Q) (o : OutE X.gv H h Q QV) : rIx X.K xv yv H QV := by
  unfold pIx at q
  split at q
  · split at q
    · rename_i e
      cases ry
      cases rx with
      | t sq r =>
        obtain ⟨v, ev, rv⟩ := atI_rp r e
        exact .inr (.inl ⟨_, _, _, v, rfl, rfl, sq, ev, o _ h v H q (Go.refl rh) rv⟩)
    · exact q.elim
  · split at q
    · rename_i e
      cases ry
      cases rx with
      | k sq r =>
        obtain ⟨v, ev, rv⟩ := atI_rp r e
        exact .inl ⟨_, _, _, v, rfl, rfl, sq.sq, ev, o _ h v H q (Go.refl rh) rv⟩
    · exact q.elim
  · obtain ⟨hz, q⟩ := q
    split at q
    · rename_i e
      cases rx; cases ry
      exact .inr (.inr ⟨_, _, _, rfl, rfl, hz, e, o _ h _ H q (Go.refl rh) (.v _)⟩)
    · exact q.elim
  · split at q
    · rename_i xs e
      split at q
      · rename_i e2
        cases rx; cases ry
        obtain ⟨vs, sq, r⟩ := rdL_ok rh e
        obtain ⟨v, ev, rv⟩ := atI_rp r e2
        exact .inl ⟨_, _, _, v, rfl, rfl, sq, ev, o _ h v H q (Go.refl rh) rv⟩
      · exact q.elim
    · exact q.elim
  · exact q.elim
theorem de_it {k : Nat} (hr : Room k X.A) (ha : DE X B a ta) (hb : DE X B b tb) (hs : PlainIx b := by exact fun _ _ => rfl) : DE X B (.Subscript a b pos) (d2 pIt ta tb) :=
  PE.imp (pe_ix (ix_seq.or ((ix_dict (hu_of hr)).or (ix_nd (by have := u50 hr; omega)))) ha hb hs) fun σV H QV ⟨σ, h, Q, r0, q, o⟩ => ⟨σ, h, _, r0, q, fun x h1 xv H1 q1 g1 rx => ⟨σ, h1, _, r0.next g1, q1, fun y h2 yv H2 q2 g2 ry => by
    have rx := rx.stb g2.st
    have o := o.on (g1.trans g2)
    unfold pIt at q2
    split at q2
    · split at q2
      · rename_i kvs e
        split at q2
        · rename_i k ek
          split at q2
          · rename_i d ed
            have ey := keyD_ok ek
            subst ey
            cases rx; cases ry
            obtain ⟨v, g, rv⟩ := dget_dk g2.rh e ed
            exact .inr (.inl ⟨_, v, rfl, g, o _ h2 v H2 q2 (Go.refl g2.rh) rv⟩)
          · exact q2.elim
        · exact q2.elim
      · rename_i kvs e
        obtain ⟨hk, q2⟩ := q2
        split at q2
        · rename_i d ed
          obtain ⟨b, rfl⟩ := nd_ref hk ry
          cases rx
          exact .inr (.inr ⟨_, b, _, kvs, d, h2, Q, rfl, rfl, g2.rh, e, hk, ry, ed, q2, o⟩)
        · exact q2.elim
      · exact .inl (ix_seqD rx ry g2.rh q2 o)
    · exact .inl (ix_seqD rx ry g2.rh q2 o)⟩⟩
def setK : SetD := fun o i v h Q => match o with
  | .v (.ref a) => match h a with
    | some (.dk kvs) => (match keyD i with
      | some k => kvs.length < sizeLine ∧ Q (put h a (.dk (putD kvs k v)))
      | none => False)
    | some (.dn kvs) => nkT i = true ∧ kvs.length < sizeLine ∧ Q (put h a (.dn (putN kvs i v)))
    | _ => setL o i v h Q
  | _ => setL o i v h Q
theorem dset_all {k : Nat} (hr : Room k X.A) : DSet X setK := fun pins s σ H o i v ov iv u Q I ro ri ru ⟨od, id, vd, h, Qd, po, pi, pv, rh, q, out⟩ => by
  unfold setK at q
  split at q
  · split at q
    · rename_i kvs e
      split at q
      · rename_i kk ek
        have ey := keyD_ok ek
        subst ey
        cases po; cases pi
        obtain rfl : ov = Value.ref _ := ro
        obtain ⟨vs, hv, r⟩ := dk_ok rh e
        exact d_setItem (hu_of hr) I (DPut.k (k := kk) hv (by rw [← r.len]; exact q.1)) ri ru fun s' I' => ⟨_, I', out _ _ q.2 (Go.set rh e hv trivial ⟨_, rfl, (putD_rel r pv).stb (Stb.set hv trivial)⟩)⟩
      · exact q.elim
    · rename_i kvs e
      obtain ⟨hk, hl, q⟩ := q
      obtain ⟨b, rfl⟩ := nd_ref hk pi
      cases po
      obtain rfl : ov = Value.ref _ := ro
      obtain rfl : iv = Value.ref _ := ri
      exact nd_setItem (by have := u50 hr; omega) I rh e hk pi ru pv hl fun H' s' I' g => ⟨_, I', out _ _ q g⟩
    · exact dset_list pins s σ H o i v ov iv u Q I ro ri ru ⟨_, id, vd, h, Qd, po, pi, pv, rh, q, out⟩
  · exact dset_list pins s σ H o i v ov iv u Q I ro ri ru ⟨od, id, vd, h, Qd, po, pi, pv, rh, q, out⟩
def pMemB (neg : Bool) : R2d := fun x y h Q => match y with
  | .v (.ref a) => match h a with
    | some (.dk kvs) => (match keyD x with
      | some k => Q (.v (.bl (if neg then !(valD kvs k).isSome else (valD kvs k).isSome))) h
      | none => False)
    | some (.dn kvs) => nkT x = true ∧ Q (.v (.bl (if neg then !(valN kvs x).isSome else (valN kvs x).isSome))) h
    | _ => pInB neg x y h Q
  | _ => pInB neg x y h Q
abbrev pMem : R2d := pMemB false
abbrev pNotMem : R2d := pMemB true
theorem mem_or {neg : Bool} {x y : V} {H : Hp} {Q : VK} (hh : l2 X.gv (pMemB neg) x y H Q) : (∃ a o, y = .ref a ∧ DGet H a x o ∧ Q (.bl (if neg then !o.isSome else o.isSome)) H) ∨ (∃ a b dx kvs h, x = .ref b ∧ y = .ref a ∧ RelH X.gv H h ∧ h a = some (.dn kvs) ∧ nkT dx = true ∧ Rp X.K H dx (.ref b) ∧ Q (.bl (if neg then !(valN kvs dx).isSome else (valN kvs dx).isSome)) H) ∨ l2 X.gv (pInB neg) x y H Q := by
  obtain ⟨dx, dy, h, Qd, rx, ry, rh, q, o⟩ := hh
  unfold pMemB at q
  split at q
  · split at q
    · rename_i kvs e
      split at q
      · rename_i k ek
        have ey := keyD_ok ek
        subst ey
        cases rx; cases ry
        obtain ⟨vs, hv, r⟩ := dk_ok rh e
        refine .inl ⟨_, valV vs k, rfl, .inl ⟨vs, k, .inl hv, rfl, rfl⟩, ?_⟩
        rw [valD_some r] at q
        exact o _ h _ H q (Go.refl rh) (.v _)
      · exact q.elim
    · rename_i kvs e
      obtain ⟨hk, q⟩ := q
      obtain ⟨b, rfl⟩ := nd_ref hk rx
      cases ry
      exact .inr (.inl ⟨_, b, dx, kvs, h, rfl, rfl, rh, e, hk, rx, o _ h _ H q (Go.refl rh) (.v _)⟩)
    · exact .inr (.inr ⟨dx, _, h, Qd, rx, ry, rh, q, o⟩)
  · exact .inr (.inr ⟨dx, dy, h, Qd, rx, ry, rh, q, o⟩)
theorem do_mem {k : Nat} (hr : Room k X.A) : DOp X (compareOp .In) pMem := fun pins s σ H x y v u Q I rx ry hh => by
  rcases mem_or hh with ⟨a, o, rfl, g, q⟩ | ⟨a, b, dx, kvs, h, rfl, rfl, rh, e, hk, rk, q⟩ | hh
  · obtain rfl : u = Value.ref a := ry
    exact d_in (hu_of hr) I g rx fun s' I' => ⟨.bl o.isSome, H, I', rfl, q⟩
  · obtain rfl : v = Value.ref b := rx
    obtain rfl : u = Value.ref a := ry
    exact nd_in (by have := u50 hr; omega) I rh e hk rk fun s' I' => ⟨.bl (valN kvs dx).isSome, H, I', rfl, q⟩
  · exact do_in pins s σ H x y v u Q I rx ry hh
theorem do_notmem {k : Nat} (hr : Room k X.A) : DOp X (compareOp .NotIn) pNotMem := fun pins s σ H x y v u Q I rx ry hh => by
  rcases mem_or hh with ⟨a, o, rfl, g, q⟩ | ⟨a, b, dx, kvs, h, rfl, rfl, rh, e, hk, rk, q⟩ | hh
  · obtain rfl : u = Value.ref a := ry
    exact d_notIn (hu_of hr) I g rx fun s' I' => ⟨.bl (!o.isSome), H, I', rfl, q⟩
  · obtain rfl : v = Value.ref b := rx
    obtain rfl : u = Value.ref a := ry
    exact nd_notIn (by have := u50 hr; omega) I rh e hk rk fun s' I' => ⟨.bl (!(valN kvs dx).isSome), H, I', rfl, q⟩
  · exact do_notin pins s σ H x y v u Q I rx ry hh
def dNewK : ED := fun _ h Q => al h (fun p => Q (.v (.ref p)) (put h p (.dk []))) .mk
theorem de_dnew : DE X B (.Dict [] [] pos) dNewK :=
  PE.imp pe_dnewK fun σV H QV ⟨σ, h, Q, r0, q, o⟩ => fun p hp => o _ _ _ _ (q p (r0.h.free hp)) (Go.new r0.h hp ⟨[], rfl, .nil⟩) (.v _)
end
end DL
namespace DL
open PySem L2
section
variable {K : PySem.W.Frag} {h : Heap} {mg : Str → Option Value}
theorem df_mk (X : K.In h) (G : h.Ns mainGlobals mg) {x : Str} {st : Stmt} {ps : List Str} {f : Addr} {od an : Option Addr} {sl : Array (Option Value)} {oc kV dc pm cd ct : Value}
    (a : PySem.W.nsIn K mainGlobals x = some (some (.ref f))) (l : K.lookup f = some ⟨oc, od, .func (PySem.W.fnOf x x (defArgs st) (defBody st) (defScope st) .none kV dc pm an cd ct), sl⟩) (c : PySem.W.codeIn K cd x = true) (k : PySem.W.keepIn K (.ref f) = true)
    (b : ∀ (kV doc pm : Value) (an : Option Addr) (cdv ct : Value) (us : List Value), us.length = ps.length → bindArgs (PySem.W.fnOf x x (defArgs st) (defBody st) (defScope st) .none kV doc pm an cdv ct) ⟨us, []⟩ = pure (ps.zip us)) : Df K mg x st ps :=
  ⟨f, _, fun_mk (st := st) l c k, PySem.W.mg_of X G a, (fun_mk (st := st) l c k).binds b⟩
theorem n_mk (X : K.In h) (G : h.Ns mainGlobals mg) {x : Str} (a : PySem.W.nsIn K mainGlobals x = some none) : mg x = none := PySem.W.mg_none_of X G a
def Uv (K : PySem.W.Frag) (d : D) (u : Value) : Prop := ∃ v, RelV v u ∧ ∀ H, Rp K H d v
inductive Uvs (K : PySem.W.Frag) : List D → List Value → Prop
  | nil : Uvs K [] []
  | cons {d : D} {ds : List D} {u : Value} {us : List Value} : Uv K d u → Uvs K ds us → Uvs K (d :: ds) (u :: us)
theorem uv_str {z : Str} {t : Tok} : Uv K (.v (.str z)) (.str z t) := ⟨.str z, ⟨_, rfl⟩, fun _ => .v _⟩
theorem uv_int {i : Int} {t : Tok} : Uv K (.v (.int i)) (.int i t) := ⟨.int i, ⟨_, rfl⟩, fun _ => .v _⟩
theorem Uvs.vals : ∀ {ds : List D} {us : List Value}, Uvs K ds us → ∃ vs, Vals vs us ∧ ∀ H, Rps K H ds vs
  | _, _, .nil => ⟨[], .nil, fun _ => .nil⟩
  | _, _, .cons ⟨v, r, p⟩ t => by
    obtain ⟨vs, q, s⟩ := Uvs.vals t
    exact ⟨v :: vs, .cons r q, fun H => .cons (p H) (s H)⟩
theorem uv_tup {ds : List D} {a : Addr} {its : Array Value} {n : Nat} {sl : Array (Option Value)} (l : K.lookup a = some ⟨.type "tuple", none, .seq its n, sl⟩) (z : its.size ≤ sizeLine) (r : Uvs K ds its.toList) : Uv K (.t ds) (.ref a) := by
  obtain ⟨vs, q, s⟩ := r.vals
  exact ⟨.ref a, rfl, fun H => .t ⟨.inr ⟨_, its, n, l, rfl, rfl, z, q⟩, .inr ⟨_, l, rfl⟩⟩ (s H)⟩
theorem kc_mk (X : K.In h) (G : h.Ns mainGlobals mg) {x : Str} {d : D} {u : Value} (a : PySem.W.nsIn K mainGlobals x = some (some u)) (r : Uv K d u) : KC K mg x d := by
  obtain ⟨v, r1, r2⟩ := r
  exact ⟨u, v, PySem.W.mg_of X G a, r1, r2⟩
def intsD (ns : List Int) : List D := ns.map fun n => .v (.int n)
def emp : Hd := fun _ => none
def lawSp : SpD := fun ds h Q _ => ∃ ns : List Int, ds = [.k (intsD ns)] ∧ h = emp ∧ ns.length ≤ 63 ∧ (∀ z ∈ ns, Builtin.Int.intBits z ≤ 1048576) ∧ ∀ h', Q (.v (.bl true)) h'
theorem law_len {ds : List D} {h : Hd} {Q : KD} {E : XD → Hd → Prop} (q : lawSp ds h Q E) : ds.length = ["script"].length := by
  obtain ⟨_, rfl, _⟩ := q
  rfl
def lawSpV (K : PySem.W.Frag) : Sp := fun vs H Q _ => ∃ (a : Addr) (ns : List Int), vs = [.ref a] ∧ Only H ∧ SqL K H a (ns.map V.int) ∧ ns.length ≤ 63 ∧ (∀ z ∈ ns, Builtin.Int.intBits z ≤ 1048576) ∧ ∀ H', Q (.bl true) H'
theorem lawSpV_of {vs : List V} {H : Hp} {Q : VK} {E : XK} (q : lawSpV K vs H Q E) : lSp ⟨K, mg, w⟩ lawSp vs H Q E := by
  obtain ⟨a, ns, rfl, hO, hS, hl, hb, hq⟩ := q
  have sf : SqF K H a (ns.map V.int) := by
    rcases hS with (hS | ⟨o, hS⟩) | hS
    · rcases hO a with e | ⟨o, xs, e⟩
      · rw [hS] at e; cases e
      · rw [hS] at e; cases e
    · exact .inl ⟨o, hS⟩
    · exact .inr hS
  refine ⟨[.k (intsD ns)], emp, fun d _ => d = .v (.bl true), fun _ _ => False, .cons (.k sf ?_) .nil, fun a o e => (by cases e), ⟨ns, rfl, rfl, hl, hb, fun _ => rfl⟩, fun d h' v H' e _ r => ?_, fun _ _ _ _ _ e _ _ => e.elim⟩
  · have := Rps.mapV (K := K) (H := H) (xs := ns.map V.int)
    rw [List.map_map] at this
    exact this
  · subst e
    cases r
    exact hq H'
theorem law_fn {l : PySem.W.OpenLaw} {w : World} (X : K.In h) (G : h.Ns mainGlobals mg) {fa : Addr} (hfa : mg "law" = some (.ref fa)) {st : Stmt} {k : Nat} {f : Addr} {od an : Option Addr} {sl : Array (Option Value)} {oc kV dc pm cd ct : Value}
    (a : PySem.W.nsIn K mainGlobals "law" = some (some (.ref f))) (lk : K.lookup f = some ⟨oc, od, .func (PySem.W.fnOf "law" "law" (defArgs st) (defBody st) (defScope st) .none kV dc pm an cd ct), sl⟩) (c : PySem.W.codeIn K cd "law" = true) (kp : PySem.W.keepIn K (.ref f) = true)
    (b : ∀ (s : Shared) (u : Value), BindsTo s (PySem.W.fnOf "law" "law" (defArgs st) (defBody st) (defScope st) .none kV dc pm an cd ct) ⟨[u], []⟩ [("script", u)])
    (F : ∀ (base : Heap), base.Ns mainGlobals mg → Fun K "law" "law" st f (PySem.W.fnOf "law" "law" (defArgs st) (defBody st) (defScope st) .none kV dc pm an cd ct) → FnD l.prog w K mg base k f (PySem.W.fnOf "law" "law" (defArgs st) (defBody st) (defScope st) .none kV dc pm an cd ct) ["script"] lawSp) :
    ∃ fd : FuncData, (∀ (s : Shared) (u : Value), BindsTo s fd ⟨[u], []⟩ [("script", u)]) ∧ ∀ base : Heap, K.In base → base.Ns mainGlobals mg → FnOk l.prog w K mg base (L2.CX l.prog w) k fa fd ["script"] (lawSpV K) := by
  have e := hfa.symm.trans (PySem.W.mg_of X G a)
  cases e
  exact ⟨_, b, fun base _ hb => (F base hb (fun_mk (st := st) lk c kp)).imp fun vs H Q E q => lawSpV_of q⟩
end
theorem walkD {l : PySem.W.OpenLaw} {q : Program} {loose : List Str} {XP : (Str → Option Value) → Heap → Prop} {YP : World → Heap → Prop} {d : DefRec} {K : Params → PySem.W.Frag} {k : Nat} (hn : l.most = some 63) (hdf : d.params.defaults = []) (hr : Room k callerA)
    (hY : ∀ (w : World) (h : Heap), YP w h → (K w.params).In h)
    (F : ∀ (w : World) (mg : Str → Option Value) (fa : Addr) (h : Heap), (K w.params).In h → h.Ns mainGlobals mg → mg d.name = some (.ref fa) →
      ∃ fd : FuncData, (∀ (s : Shared) (u : Value), BindsTo s fd ⟨[u], []⟩ [("script", u)]) ∧ ∀ base : Heap, (K w.params).In base → base.Ns mainGlobals mg → FnOk l.prog w (K w.params) mg base (L2.CX l.prog w) k fa fd ["script"] (lawSpV (K w.params))) :
    PySem.W.WalkO q loose XP YP l.row.toRowW d [] (fun f vs => PySem.call f vs) :=
  L2.walk_ofB (n := 63) (k := k) (x := "script") (CX := fun w => L2.CX l.prog w) (sp := fun w => lawSpV (K w.params)) hn (by decide) hdf hr hY F (fun w H a ns hl hb hO hS => ⟨a, ns, rfl, hO, hS, hl, hb, fun _ => rfl⟩)
    fun w H s e s' ⟨_, _, _, _, _, _, _, _, _, _, _, _, z⟩ => z
end DL
namespace DL
open PySem L2
theorem finI {Q : KD} {d : D} {h hs : Hd} (s : Sub hs h) (q : Q d hs) : (fin Q).rt d h := ⟨hs, s, q⟩
theorem finR {Q : KD} {d : D} {h : Hd} (q : Q d h) : (fin Q).rt d h := ⟨h, Sub.refl h, q⟩
theorem al_i {h : Hd} {Q : Addr → Prop} {b : BxA Q} (q : ∀ p, h p = none → Q p) : al h Q b := q
theorem cl_i {sp : SpD} {ds : List D} {h : Hd} {Q : KD} {E : XD → Hd → Prop} {b : BxK Q E} (q : sp ds h Q E) : cl sp ds h Q E b := q
theorem loop_of {g : GD} {body : SD} {chk : Hd → Prop} {items : List D} {D : EndsD} {σ : Sd} {h : Hd} (P : Nat → Sd → Hd → Prop) (h0 : P 0 σ h) (hc : ∀ i σ h, i ≤ items.length → P i σ h → chk h)
    (step : ∀ (i : Nat) (x : DL.D) (σ : Sd) (h : Hd), items[i]? = some x → P i σ h → ∀ N : Sd → Hd → Prop, (∀ σ' h', P (i + 1) σ' h' → N σ' h') → g x σ h fun σ2 h2 => body (wL D N) σ2 h2)
    (done : ∀ σ h, P items.length σ h → D.nx σ h) : dLoop g body chk items D σ h := by
  suffices ∀ (k : Nat) (σ : Sd) (h : Hd) (l : List DL.D), l = items.drop k → k ≤ items.length → P k σ h → dLoop g body chk l D σ h from this 0 σ h items rfl (Nat.zero_le _) h0
  intro k σ h l
  induction l generalizing k σ h with
  | nil =>
    intro e hk p
    have hl : k = items.length := by
      have := congrArg List.length e
      rw [List.length_nil, List.length_drop] at this
      omega
    subst hl
    exact ⟨hc _ _ _ (Nat.le_refl _) p, done _ _ p⟩
  | cons x r ih =>
    intro e hk p
    have hlt : k < items.length := by
      have := congrArg List.length e
      rw [List.length_cons, List.length_drop] at this
      omega
    rw [List.drop_eq_getElem_cons hlt] at e
    injection e with e1 e2
    refine ⟨hc _ _ _ hk p, ?_⟩
    exact step k x σ h (by rw [e1]; exact List.getElem?_eq_getElem hlt) p _ fun σ' h' p' => ih (k + 1) σ' h' e2 hlt p'
theorem cmp_of {g : GD} {tt : TD} {te : ED} {chk : Hd → Prop} {items : List D} {σ : Sd} {h : Hd} {Q : List D → Hd → Prop} {b : BxC Q} (f : D → Option D) (hc : chk h) (hl : items.length ≤ 1000000)
    (step : ∀ x, x ∈ items → ∀ (S : D → Hd → Prop) (N : Hd → Prop), (∀ y, f x = some y → S y h) → (f x = none → N h) → g x σ h fun σ2 h2 => tt σ2 h2 fun c h3 => dIte (c = true) (te σ2 h3 S) (N h3) .mk)
    (q : Q (items.filterMap f) h) : cmp g tt te chk items σ h Q b := by
  suffices ∀ (l acc : List D), (∀ x, x ∈ l → x ∈ items) → acc.length + l.length ≤ items.length → Q (acc ++ l.filterMap f) h → dComp g tt te chk l acc σ h Q from this items [] (fun _ h => h) (by simp) (by simpa using q)
  intro l
  induction l with
  | nil => intro acc _ _ q; exact ⟨hc, by simpa using q⟩
  | cons x r ih =>
    intro acc hm hz q
    refine ⟨hc, step x (hm x List.mem_cons_self) _ _ (fun y e => ⟨?_, ?_⟩) fun e => ?_⟩
    · have : items.length < sizeLine := Nat.lt_of_le_of_lt hl (by decide)
      rw [List.length_cons] at hz
      omega
    · refine ih _ (fun z hz => hm z (List.mem_cons_of_mem _ hz)) ?_ ?_
      · rw [List.length_append, List.length_cons] at *
        simp only [List.length_nil, List.length_cons] at *
        omega
      · rw [List.filterMap_cons, e] at q
        simpa using q
    · refine ih _ (fun z hz => hm z (List.mem_cons_of_mem _ hz)) ?_ ?_
      · rw [List.length_cons] at hz
        omega
      · rw [List.filterMap_cons, e] at q
        exact q
theorem cmp_map {g : GD} {tt : TD} {te : ED} {chk : Hd → Prop} {items : List D} {σ : Sd} {h : Hd} {Q : List D → Hd → Prop} {b : BxC Q} (f : D → D) (hc : chk h) (hl : items.length ≤ 1000000)
    (step : ∀ x, x ∈ items → ∀ (S : D → Hd → Prop) (N : Hd → Prop), S (f x) h → g x σ h fun σ2 h2 => tt σ2 h2 fun c h3 => dIte (c = true) (te σ2 h3 S) (N h3) .mk)
    (q : Q (items.map f) h) : cmp g tt te chk items σ h Q b :=
  cmp_of (fun x => some (f x)) hc hl (fun x hx S N h1 _ => step x hx S N (h1 _ rfl)) (by rw [show (fun x => some (f x)) = some ∘ f from rfl, List.filterMap_eq_map]; exact q)
theorem st_NoneType_int : subTy "NoneType" "int" = false := by decide
theorem st_NoneType_bool : subTy "NoneType" "bool" = false := by decide
theorem st_NoneType_str : subTy "NoneType" "str" = false := by decide
theorem st_NoneType_tuple : subTy "NoneType" "tuple" = false := by decide
theorem st_NoneType_list : subTy "NoneType" "list" = false := by decide
theorem st_NoneType_dict : subTy "NoneType" "dict" = false := by decide
theorem st_bool_int : subTy "bool" "int" = true := by decide
theorem st_bool_bool : subTy "bool" "bool" = true := by decide
theorem st_bool_str : subTy "bool" "str" = false := by decide
theorem st_bool_tuple : subTy "bool" "tuple" = false := by decide
theorem st_bool_list : subTy "bool" "list" = false := by decide
theorem st_bool_dict : subTy "bool" "dict" = false := by decide
theorem st_int_int : subTy "int" "int" = true := by decide
theorem st_int_bool : subTy "int" "bool" = false := by decide
theorem st_int_str : subTy "int" "str" = false := by decide
theorem st_int_tuple : subTy "int" "tuple" = false := by decide
theorem st_int_list : subTy "int" "list" = false := by decide
theorem st_int_dict : subTy "int" "dict" = false := by decide
theorem st_str_int : subTy "str" "int" = false := by decide
theorem st_str_bool : subTy "str" "bool" = false := by decide
theorem st_str_str : subTy "str" "str" = true := by decide
theorem st_str_tuple : subTy "str" "tuple" = false := by decide
theorem st_str_list : subTy "str" "list" = false := by decide
theorem st_str_dict : subTy "str" "dict" = false := by decide
theorem st_tuple_int : subTy "tuple" "int" = false := by decide
theorem st_tuple_bool : subTy "tuple" "bool" = false := by decide
theorem st_tuple_str : subTy "tuple" "str" = false := by decide
theorem st_tuple_tuple : subTy "tuple" "tuple" = true := by decide
theorem st_tuple_list : subTy "tuple" "list" = false := by decide
theorem st_tuple_dict : subTy "tuple" "dict" = false := by decide
theorem st_list_int : subTy "list" "int" = false := by decide
theorem st_list_bool : subTy "list" "bool" = false := by decide
theorem st_list_str : subTy "list" "str" = false := by decide
theorem st_list_tuple : subTy "list" "tuple" = false := by decide
theorem st_list_list : subTy "list" "list" = true := by decide
theorem st_list_dict : subTy "list" "dict" = false := by decide
theorem st_dict_int : subTy "dict" "int" = false := by decide
theorem st_dict_bool : subTy "dict" "bool" = false := by decide
theorem st_dict_str : subTy "dict" "str" = false := by decide
theorem st_dict_tuple : subTy "dict" "tuple" = false := by decide
theorem st_dict_list : subTy "dict" "list" = false := by decide
theorem st_dict_dict : subTy "dict" "dict" = true := by decide
theorem tk_int : tyKnown "int" = true := by decide
theorem tk_bool : tyKnown "bool" = true := by decide
theorem tk_str : tyKnown "str" = true := by decide
theorem tk_tuple : tyKnown "tuple" = true := by decide
theorem tk_list : tyKnown "list" = true := by decide
theorem tk_dict : tyKnown "dict" = true := by decide
end DL
namespace DL
open PySem L2
def mO {α : Type} (o : Option α) (k : α → Prop) : Prop := match o with
  | some a => k a
  | none => False
theorem mO_some {α : Type} {a : α} {k : α → Prop} : mO (some a) k = k a := rfl
def mBl (d : D) (k : Bool → Prop) : Prop := match d with
  | .v (.bl b) => k b
  | _ => False
theorem mBl_bl {b : Bool} {k : Bool → Prop} : mBl (.v (.bl b)) k = k b := rfl
def mInt (d : D) (k : Int → Prop) : Prop := match d with
  | .v (.int b) => k b
  | _ => False
theorem mInt_int {b : Int} {k : Int → Prop} : mInt (.v (.int b)) k = k b := rfl
section
variable {σ : Sd} {h : Hd} {Q : KD}
theorem dVar_s {i : Nat} : dVar i σ h Q = mO (gS σ i) fun d => Q d h := by
  unfold dVar
  cases gS σ i <;> rfl
theorem dTest_s {t : ED} {Q : Bool → Hd → Prop} : dTest t σ h Q = t σ h fun d h1 => mBl d fun k => Q k h1 := by
  unfold dTest mBl
  rfl
theorem d3_s {r r' : R2d} {ta tb tc : ED} : d3 r r' ta tb tc σ h Q = ta σ h fun x h1 => tb σ h1 fun y h2 => r x y h2 fun z h3 => mBl z fun k => dIte (k = true) (tc σ h3 fun w h4 => r' y w h4 Q) (Q (.v (.bl false)) h3) .mk := by
  unfold d3 mBl
  rfl
theorem dAndV_s {ta tb : ED} : dAndV ta tb σ h Q = ta σ h fun d h1 => mBl d fun k => dIte (k = true) (tb σ h1 Q) (Q (.v (.bl false)) h1) .mk := by
  unfold dAndV mBl
  rfl
theorem dNotV_s {ta : ED} : dNotV ta σ h Q = ta σ h fun d h1 => mBl d fun k => Q (.v (.bl (!k))) h1 := by
  unfold dNotV mBl
  rfl
theorem rdL_l {a : Addr} {xs : List D} (e : h a = some (.lst xs)) : rdL h a = some xs := by unfold rdL; rw [e]
abbrev RD := List D → (Hd → Prop) → Hd → Prop
def iO (o : Option O) (a : Addr) (h : Hd) (R : RD) : Prop := match o with
  | some (.lst xs) => R xs (fun h' => rdL h' a = some xs) h
  | _ => False
theorem iO_s {a : Addr} {xs : List D} {R : RD} : iO (some (.lst xs)) a h R = R xs (fun h' => rdL h' a = some xs) h := rfl
def iAnyX (d : D) (h : Hd) (R : RD) : Prop := match d with
  | .t ds => R ds (fun _ => True) h
  | .k ds => R ds (fun _ => True) h
  | .v (.str z) => R (chars z) (fun _ => True) h
  | .v (.ref a) => iO (h a) a h R
  | _ => False
theorem iAnyX_t {ds : List D} {R : RD} : iAnyX (.t ds) h R = R ds (fun _ => True) h := rfl
theorem iAnyX_k {ds : List D} {R : RD} : iAnyX (.k ds) h R = R ds (fun _ => True) h := rfl
theorem iAnyX_s {z : Str} {R : RD} : iAnyX (.v (.str z)) h R = R (chars z) (fun _ => True) h := rfl
theorem iAnyX_r {a : Addr} {R : RD} : iAnyX (.v (.ref a)) h R = iO (h a) a h R := rfl
theorem iAnyD_s {te : ED} {R : RD} : iAnyD te σ h R = te σ h fun d h1 => iAnyX d h1 R := by
  unfold iAnyD
  congr 1
  funext d h1
  cases d with
  | t => rfl
  | k => rfl
  | v x =>
    cases x with
    | ref a =>
      show (match rdL h1 a with
        | some xs => R xs (fun h' => rdL h' a = some xs) h1
        | none => False) = iO (h1 a) a h1 R
      cases e : h1 a with
      | none =>
        rw [show rdL h1 a = none by unfold rdL; rw [e]]
        rfl
      | some o =>
        cases o with
        | lst xs => rw [rdL_l e]; rfl
        | _ =>
          rw [show rdL h1 a = none by unfold rdL; rw [e]]
          rfl
    | _ => rfl
def rng1 (ds : List D) (h : Hd) (R : RD) : Prop := match ds with
  | [.v (.int j)] => (-4611686018427387904 ≤ j ∧ j < 4611686018427387904) ∧ R (rangeD 0 j.toNat) (fun _ => True) h
  | _ => False
def rng2 (ds : List D) (h : Hd) (R : RD) : Prop := match ds with
  | [.v (.int i), .v (.int j)] => (-4611686018427387904 ≤ i ∧ i < 4611686018427387904 ∧ -4611686018427387904 ≤ j ∧ j < 4611686018427387904) ∧ R (rangeD i (j - i).toNat) (fun _ => True) h
  | _ => False
theorem rng1_s {j : Int} {R : RD} : rng1 [.v (.int j)] h R = ((-4611686018427387904 ≤ j ∧ j < 4611686018427387904) ∧ R (rangeD 0 j.toNat) (fun _ => True) h) := rfl
theorem rng2_s {i j : Int} {R : RD} : rng2 [.v (.int i), .v (.int j)] h R = ((-4611686018427387904 ≤ i ∧ i < 4611686018427387904 ∧ -4611686018427387904 ≤ j ∧ j < 4611686018427387904) ∧ R (rangeD i (j - i).toNat) (fun _ => True) h) := rfl
theorem iRng1D_s {ta : AD} {R : RD} : iRng1D ta σ h R = ta σ h fun ds h1 => rng1 ds h1 R := by unfold iRng1D rng1; rfl
theorem iRng2D_s {ta : AD} {R : RD} : iRng2D ta σ h R = ta σ h fun ds h1 => rng2 ds h1 R := by unfold iRng2D rng2; rfl
section
variable {i j : Int} {a b : Str} {xs ys : List D} {x y : D} {p q : Addr}
theorem pAdd_i : pAdd (.v (.int i)) (.v (.int j)) h Q = Q (.v (.int (i + j))) h := rfl
theorem pAdd_s : pAdd (.v (.str a)) (.v (.str b)) h Q = (a.length + b.length ≤ sizeLine ∧ Q (.v (.str (a ++ b))) h) := rfl
theorem pAdd_t : pAdd (.t xs) (.t ys) h Q = (xs.length + ys.length ≤ sizeLine ∧ Q (.t (xs ++ ys)) h) := rfl
def addO (o u : Option O) (h : Hd) (Q : KD) : Prop := match o, u with
  | some (.lst xs), some (.lst ys) => xs.length + ys.length ≤ sizeLine ∧ al h (fun p => Q (.v (.ref p)) (put h p (.lst (xs ++ ys)))) .mk
  | _, _ => False
theorem addO_s : addO (some (.lst xs)) (some (.lst ys)) h Q = (xs.length + ys.length ≤ sizeLine ∧ al h (fun p => Q (.v (.ref p)) (put h p (.lst (xs ++ ys)))) .mk) := rfl
theorem pAdd_l : pAdd (.v (.ref p)) (.v (.ref q)) h Q = addO (h p) (h q) h Q := by
  unfold pAdd addO
  rfl
theorem pSub_i : pSub (.v (.int i)) (.v (.int j)) h Q = Q (.v (.int (i - j))) h := rfl
theorem pMul_i : pMul (.v (.int i)) (.v (.int j)) h Q = (mulOk i j ∧ Q (.v (.int (i * j))) h) := rfl
theorem pFdv_i : pFdv (.v (.int i)) (.v (.int j)) h Q = (divOk j ∧ Q (.v (.int (i / j))) h) := rfl
theorem pMod_i : pMod (.v (.int i)) (.v (.int j)) h Q = (0 < j ∧ Q (.v (.int (i % j))) h) := rfl
theorem pPow_i : pPow (.v (.int i)) (.v (.int j)) h Q = (powOk i j ∧ Q (.v (.int (i ^ j.toNat))) h) := rfl
theorem pLt_i : pLt (.v (.int i)) (.v (.int j)) h Q = Q (.v (.bl (decide (i < j)))) h := rfl
theorem pLe_i : pLe (.v (.int i)) (.v (.int j)) h Q = Q (.v (.bl (decide (i ≤ j)))) h := rfl
theorem pGt_i : pGt (.v (.int i)) (.v (.int j)) h Q = Q (.v (.bl (decide (j < i)))) h := rfl
theorem pGe_i : pGe (.v (.int i)) (.v (.int j)) h Q = Q (.v (.bl (decide (j ≤ i)))) h := rfl
theorem pLt_s : pLt (.v (.str a)) (.v (.str b)) h Q = Q (.v (.bl (strLt a b))) h := rfl
theorem pLe_s : pLe (.v (.str a)) (.v (.str b)) h Q = Q (.v (.bl (!strLt b a))) h := rfl
theorem pGt_s : pGt (.v (.str a)) (.v (.str b)) h Q = Q (.v (.bl (strLt b a))) h := rfl
theorem pGe_s : pGe (.v (.str a)) (.v (.str b)) h Q = Q (.v (.bl (!strLt a b))) h := rfl
theorem pEq_i : pEq (.v (.int i)) (.v (.int j)) h Q = Q (.v (.bl (decide (i = j)))) h := rfl
theorem pEq_s : pEq (.v (.str a)) (.v (.str b)) h Q = Q (.v (.bl (decide (a = b)))) h := rfl
theorem pEq_t : pEq (.t xs) y h Q = ((plD 50 (.t xs) && plD 50 y) = true ∧ Q (.v (.bl (eqD (.t xs) y))) h) := by unfold pEq; rfl
theorem pEq_non : pEq (.v .non) y h Q = ((plD 50 (.v .non) && plD 50 y) = true ∧ Q (.v (.bl (eqD (.v .non) y))) h) := by unfold pEq; rfl
theorem pEq_bl {k : Bool} : pEq (.v (.bl k)) y h Q = ((plD 50 (.v (.bl k)) && plD 50 y) = true ∧ Q (.v (.bl (eqD (.v (.bl k)) y))) h) := by unfold pEq; rfl
theorem pNe_i : pNe (.v (.int i)) (.v (.int j)) h Q = Q (.v (.bl (!decide (i = j)))) h := rfl
theorem pNe_s : pNe (.v (.str a)) (.v (.str b)) h Q = Q (.v (.bl (!decide (a = b)))) h := rfl
theorem pNe_t : pNe (.t xs) y h Q = ((plD 50 (.t xs) && plD 50 y) = true ∧ Q (.v (.bl (!eqD (.t xs) y))) h) := by unfold pNe; rfl
theorem pNe_non : pNe (.v .non) y h Q = ((plD 50 (.v .non) && plD 50 y) = true ∧ Q (.v (.bl (!eqD (.v .non) y))) h) := by unfold pNe; rfl
theorem pNe_bl {k : Bool} : pNe (.v (.bl k)) y h Q = ((plD 50 (.v (.bl k)) && plD 50 y) = true ∧ Q (.v (.bl (!eqD (.v (.bl k)) y))) h) := by unfold pNe; rfl
def itO (o : Option O) (y : D) (h : Hd) (Q : KD) : Prop := match o with
  | some (.lst xs) => mInt y fun i => mO (atI xs i) fun d => Q d h
  | some (.dk kvs) => mO (keyD y) fun k => mO (valD kvs k) fun d => Q d h
  | some (.dn kvs) => nkT y = true ∧ mO (valN kvs y) fun d => Q d h
  | _ => False
theorem itO_n {kvs : List (D × D)} : itO (some (.dn kvs)) y h Q = (nkT y = true ∧ mO (valN kvs y) fun d => Q d h) := rfl
theorem itO_l : itO (some (.lst xs)) (.v (.int i)) h Q = mO (atI xs i) fun d => Q d h := rfl
theorem itO_d {kvs : List (Key × D)} : itO (some (.dk kvs)) y h Q = mO (keyD y) fun k => mO (valD kvs k) fun d => Q d h := rfl
theorem pIt_t : pIt (.t xs) (.v (.int i)) h Q = mO (atI xs i) fun d => Q d h := by
  show (match atI xs i with
    | some d => Q (d) h
    | none => False) = _
  cases atI xs i <;> rfl
theorem pIt_k : pIt (.k xs) (.v (.int i)) h Q = mO (atI xs i) fun d => Q d h := by
  show (match atI xs i with
    | some d => Q (d) h
    | none => False) = _
  cases atI xs i <;> rfl
theorem pIt_s : pIt (.v (.str a)) (.v (.int i)) h Q = (a.length ≤ sizeLine ∧ mO (atI a.cps.toList i) fun c => Q (.v (.str ⟨#[c]⟩)) h) := by
  show (a.length ≤ sizeLine ∧ (match atI a.cps.toList i with
    | some c => Q (.v (.str ⟨#[c]⟩)) h
    | none => False)) = _
  cases atI a.cps.toList i <;> rfl
theorem pIt_r : pIt (.v (.ref p)) y h Q = itO (h p) y h Q := by
  show (match h p with
    | some (.dk kvs) => (match keyD y with
      | some k => (match valD kvs k with
        | some d => Q d h
        | none => False)
      | none => False)
    | some (.dn kvs) => nkT y = true ∧ (match valN kvs y with
      | some d => Q d h
      | none => False)
    | _ => pIx (.v (.ref p)) y h Q) = _
  cases e : h p with
  | none =>
    show pIx (.v (.ref p)) y h Q = False
    cases y with
    | v y =>
      cases y with
      | int =>
        show (match rdL h p with
          | some xs => _
          | none => False) = False
        unfold rdL
        rw [e]
      | _ => rfl
    | _ => rfl
  | some o =>
    cases o with
    | dk kvs =>
      show (match keyD y with
      | some k => (match valD kvs k with
        | some d => Q d h
        | none => False)
      | none => False) = mO (keyD y) fun k => mO (valD kvs k) fun d => Q d h
      cases keyD y with
      | none => rfl
      | some k =>
        show (match valD kvs k with
        | some d => Q d h
        | none => False) = mO (valD kvs k) fun d => Q d h
        cases valD kvs k <;> rfl
    | lst xs =>
      show pIx (.v (.ref p)) y h Q = mInt y fun i => mO (atI xs i) fun d => Q d h
      cases y with
      | v y =>
        cases y with
        | int i =>
          show (match rdL h p with
            | some xs => (match atI xs i with
              | some d => Q d h
              | none => False)
            | none => False) = mO (atI xs i) fun d => Q d h
          rw [rdL_l e]
          show (match atI xs i with
              | some d => Q d h
              | none => False) = mO (atI xs i) fun d => Q d h
          cases atI xs i <;> rfl
        | _ => rfl
      | _ => rfl
    | dn kvs =>
      show (nkT y = true ∧ (match valN kvs y with
        | some d => Q d h
        | none => False)) = (nkT y = true ∧ mO (valN kvs y) fun d => Q d h)
      cases valN kvs y <;> rfl
    | _ =>
      show pIx (.v (.ref p)) y h Q = False
      cases y with
      | v y =>
        cases y with
        | int i =>
          show (match rdL h p with
            | some xs => _
            | none => False) = False
          unfold rdL
          rw [e]
        | _ => rfl
      | _ => rfl
theorem pNeg_i : pNeg (.v (.int i)) h Q = Q (.v (.int (-i))) h := rfl
theorem pIs_n : pIs x (.v .non) h Q = Q (.v (.bl (isN x))) h := rfl
theorem pIsNot_n : pIsNot x (.v .non) h Q = Q (.v (.bl (!isN x))) h := rfl
theorem isN_non : isN (.v .non) = true := rfl
theorem isN_int : isN (.v (.int i)) = false := rfl
theorem isN_bl {k : Bool} : isN (.v (.bl k)) = false := rfl
theorem isN_str : isN (.v (.str a)) = false := rfl
theorem isN_t : isN (.t xs) = false := rfl
theorem isN_ref : isN (.v (.ref p)) = false := rfl
def memO (o : Option O) (neg : Bool) (x : D) (h : Hd) (Q : KD) : Prop := match o with
  | some (.lst ds) => flatD x = true ∧ ds.all flatD = true ∧ Q (.v (.bl (if neg then !inL x ds else inL x ds))) h
  | some (.dk kvs) => mO (keyD x) fun k => Q (.v (.bl (if neg then !(valD kvs k).isSome else (valD kvs k).isSome))) h
  | some (.dn kvs) => nkT x = true ∧ Q (.v (.bl (if neg then !(valN kvs x).isSome else (valN kvs x).isSome))) h
  | _ => False
theorem memO_n {neg : Bool} {kvs : List (D × D)} : memO (some (.dn kvs)) neg x h Q = (nkT x = true ∧ Q (.v (.bl (if neg then !(valN kvs x).isSome else (valN kvs x).isSome))) h) := rfl
theorem memO_l {neg : Bool} : memO (some (.lst xs)) neg x h Q = (flatD x = true ∧ xs.all flatD = true ∧ Q (.v (.bl (if neg then !inL x xs else inL x xs))) h) := rfl
theorem memO_d {neg : Bool} {kvs : List (Key × D)} : memO (some (.dk kvs)) neg x h Q = mO (keyD x) fun k => Q (.v (.bl (if neg then !(valD kvs k).isSome else (valD kvs k).isSome))) h := rfl
theorem pMemB_t {neg : Bool} : pMemB neg x (.t xs) h Q = (flatD x = true ∧ xs.all flatD = true ∧ Q (.v (.bl (if neg then !inL x xs else inL x xs))) h) := rfl
theorem pMemB_s {neg : Bool} : pMemB neg (.v (.str a)) (.v (.str b)) h Q = Q (.v (.bl (if neg then !strIn a b else strIn a b))) h := rfl
theorem pMemB_r {neg : Bool} : pMemB neg x (.v (.ref p)) h Q = memO (h p) neg x h Q := by
  show (match h p with
    | some (.dk kvs) => (match keyD x with
      | some k => Q (.v (.bl (if neg then !(valD kvs k).isSome else (valD kvs k).isSome))) h
      | none => False)
    | some (.dn kvs) => nkT x = true ∧ Q (.v (.bl (if neg then !(valN kvs x).isSome else (valN kvs x).isSome))) h
    | _ => (match rdL h p with
      | some ds => flatD x = true ∧ ds.all flatD = true ∧ Q (.v (.bl (if neg then !inL x ds else inL x ds))) h
      | none => False)) = memO (h p) neg x h Q
  cases e : h p with
  | none =>
    show (match rdL h p with
      | some ds => flatD x = true ∧ ds.all flatD = true ∧ Q (.v (.bl (if neg then !inL x ds else inL x ds))) h
      | none => False) = _
    rw [show rdL h p = none by unfold rdL; rw [e]]
    rfl
  | some o =>
    cases o with
    | dk kvs =>
      show (match keyD x with
      | some k => Q (.v (.bl (if neg then !(valD kvs k).isSome else (valD kvs k).isSome))) h
      | none => False) = mO (keyD x) fun k => Q (.v (.bl (if neg then !(valD kvs k).isSome else (valD kvs k).isSome))) h
      cases keyD x <;> rfl
    | dn kvs => rfl
    | lst xs =>
      show (match rdL h p with
        | some ds => flatD x = true ∧ ds.all flatD = true ∧ Q (.v (.bl (if neg then !inL x ds else inL x ds))) h
        | none => False) = _
      rw [rdL_l e]
      rfl
    | _ =>
      show (match rdL h p with
        | some ds => flatD x = true ∧ ds.all flatD = true ∧ Q (.v (.bl (if neg then !inL x ds else inL x ds))) h
        | none => False) = _
      rw [show rdL h p = none by unfold rdL; rw [e]]
      rfl
theorem dPart_s {t : ED} {Q : Option Int → Hd → Prop} : dPart t σ h Q = t σ h fun d h1 => mInt d fun i => Q (some i) h1 := by
  unfold dPart mInt
  rfl
def slO (o : Option O) (lo hi : Option Int) (h : Hd) (Q : KD) : Prop := match o with
  | some (.lst xs) => al h (fun p => Q (.v (.ref p)) (put h p (.lst (cutD xs lo hi)))) .mk
  | _ => False
section
variable {lo hi : Option Int}
theorem slO_l : slO (some (.lst xs)) lo hi h Q = al h (fun p => Q (.v (.ref p)) (put h p (.lst (cutD xs lo hi)))) .mk := rfl
theorem pSl_t : pSl (.t xs) lo hi h Q = Q (.t (cutD xs lo hi)) h := rfl
theorem pSl_k : pSl (.k xs) lo hi h Q = al h (fun p => Q (.v (.ref p)) (put h p (.lst (cutD xs lo hi)))) .mk := rfl
theorem pSl_s : pSl (.v (.str a)) lo hi h Q = (a.length ≤ sizeLine ∧ Q (.v (.str (cutS a lo hi))) h) := rfl
theorem pSl_r : pSl (.v (.ref p)) lo hi h Q = slO (h p) lo hi h Q := by
  show (match rdL h p with
    | some xs => al h (fun p => Q (.v (.ref p)) (put h p (.lst (cutD xs lo hi)))) .mk
    | none => False) = _
  unfold rdL
  cases h p with
  | none => rfl
  | some o => cases o <;> rfl
end
theorem cInt_i : cInt [.v (.int i)] h Q = Q (.v (.int i)) h := rfl
theorem cInt_b {k : Bool} : cInt [.v (.bl k)] h Q = Q (.v (.int (if k then 1 else 0))) h := rfl
def lenO (o : Option O) (h : Hd) (Q : KD) : Prop := match o with
  | some (.lst xs) => Q (.v (.int (xs.length : Int))) h
  | some (.dk kvs) => Q (.v (.int (kvs.length : Int))) h
  | _ => False
theorem lenO_l : lenO (some (.lst xs)) h Q = Q (.v (.int (xs.length : Int))) h := rfl
theorem lenO_d {kvs : List (Key × D)} : lenO (some (.dk kvs)) h Q = Q (.v (.int (kvs.length : Int))) h := rfl
theorem cLen_t : cLen [.t xs] h Q = Q (.v (.int (xs.length : Int))) h := rfl
theorem cLen_k : cLen [.k xs] h Q = Q (.v (.int (xs.length : Int))) h := rfl
theorem cLen_s : cLen [.v (.str a)] h Q = (a.length ≤ sizeLine ∧ Q (.v (.int (a.length : Int))) h) := rfl
theorem cLen_r : cLen [.v (.ref p)] h Q = lenO (h p) h Q := by
  show (match rdL h p with
    | some xs => Q (.v (.int (xs.length : Int))) h
    | none => match h p with
      | some (.dk kvs) => Q (.v (.int (kvs.length : Int))) h
      | _ => False) = _
  unfold rdL
  cases h p with
  | none => rfl
  | some o => cases o <;> rfl
def tupO (o : Option O) (h : Hd) (Q : KD) : Prop := match o with
  | some (.lst xs) => Q (.t xs) h
  | _ => False
theorem tupO_l : tupO (some (.lst xs)) h Q = Q (.t xs) h := rfl
theorem cTuple_t : cTuple [.t xs] h Q = Q (.t xs) h := rfl
theorem cTuple_r : cTuple [.v (.ref p)] h Q = tupO (h p) h Q := by
  show (match rdL h p with
    | some xs => Q (.t xs) h
    | none => False) = _
  unfold rdL
  cases h p with
  | none => rfl
  | some o => cases o <;> rfl
def lstO (o : Option O) (h : Hd) (Q : KD) : Prop := match o with
  | some (.lst xs) => al h (fun p => Q (.v (.ref p)) (put h p (.lst xs))) .mk
  | _ => False
theorem lstO_l : lstO (some (.lst xs)) h Q = al h (fun p => Q (.v (.ref p)) (put h p (.lst xs))) .mk := rfl
theorem cList_t : cList [.t xs] h Q = al h (fun p => Q (.v (.ref p)) (put h p (.lst xs))) .mk := rfl
theorem cList_s : cList [.v (.str a)] h Q = (a.length ≤ sizeLine ∧ al h (fun p => Q (.v (.ref p)) (put h p (.lst (chars a)))) .mk) := rfl
theorem cList_r : cList [.v (.ref p)] h Q = lstO (h p) h Q := by
  show (match rdL h p with
    | some xs => al h (fun p => Q (.v (.ref p)) (put h p (.lst xs))) .mk
    | none => False) = _
  unfold rdL
  cases h p with
  | none => rfl
  | some o => cases o <;> rfl
theorem cIsi_s {n : String} : cIsi [x, .v (.ty n)] h Q = mO (tyName x h) fun m => tyKnown n = true ∧ Q (.v (.bl (subTy m n))) h := by
  show (match tyName x h with
    | some m => tyKnown n = true ∧ Q (.v (.bl (subTy m n))) h
    | none => False) = _
  cases tyName x h <;> rfl
def tyO (o : Option O) : Option String := match o with
  | some (.lst _) => some "list"
  | some (.dk _) => some "dict"
  | _ => none
theorem tyO_l : tyO (some (.lst xs)) = some "list" := rfl
theorem tyO_d {kvs : List (Key × D)} : tyO (some (.dk kvs)) = some "dict" := rfl
theorem ty_non : tyName (.v .non) h = some "NoneType" := rfl
theorem ty_bl {k : Bool} : tyName (.v (.bl k)) h = some "bool" := rfl
theorem ty_int : tyName (.v (.int i)) h = some "int" := rfl
theorem ty_str : tyName (.v (.str a)) h = some "str" := rfl
theorem ty_t : tyName (.t xs) h = some "tuple" := rfl
theorem ty_r : tyName (.v (.ref p)) h = tyO (h p) := rfl
def tymO (T : String) (o : Option O) : Prop := match o with
  | some (.lst _) => T = "list"
  | some (.dk _) => T = "dict"
  | _ => False
theorem tymO_l : tymO "list" (some (.lst xs)) = True := eq_true rfl
theorem tymO_d {kvs : List (Key × D)} : tymO "dict" (some (.dk kvs)) = True := eq_true rfl
theorem tyM_s : tyM "str" (.v (.str a)) h = True := eq_true rfl
theorem tyM_r {T : String} : tyM T (.v (.ref p)) h = tymO T (h p) := rfl
def appO (o : Option O) (p : Addr) (y : D) (h : Hd) (Q : KD) : Prop := match o with
  | some (.lst xs) => xs.length < sizeLine ∧ Q (.v .non) (put h p (.lst (xs ++ [y])))
  | _ => False
theorem appO_l {y : D} : appO (some (.lst xs)) p y h Q = (xs.length < sizeLine ∧ Q (.v .non) (put h p (.lst (xs ++ [y])))) := rfl
theorem mAppend_s {y : D} : mAppend (.v (.ref p)) [y] h Q = appO (h p) p y h Q := rfl
def setO (o : Option O) (p : Addr) (i v : D) (h : Hd) (Q : Hd → Prop) : Prop := match o with
  | some (.lst xs) => mInt i fun k => mO (ixN xs.length k) fun j => Q (put h p (.lst (xs.set j v)))
  | some (.dk kvs) => mO (keyD i) fun k => kvs.length < sizeLine ∧ Q (put h p (.dk (putD kvs k v)))
  | some (.dn kvs) => nkT i = true ∧ kvs.length < sizeLine ∧ Q (put h p (.dn (putN kvs i v)))
  | _ => False
theorem setO_n {v : D} {kvs : List (D × D)} {Q : Hd → Prop} : setO (some (.dn kvs)) p x v h Q = (nkT x = true ∧ kvs.length < sizeLine ∧ Q (put h p (.dn (putN kvs x v)))) := rfl
theorem setO_l {v : D} {Q : Hd → Prop} : setO (some (.lst xs)) p (.v (.int i)) v h Q = mO (ixN xs.length i) fun j => Q (put h p (.lst (xs.set j v))) := rfl
theorem setO_d {kvs : List (Key × D)} {v : D} {Q : Hd → Prop} : setO (some (.dk kvs)) p x v h Q = mO (keyD x) fun k => kvs.length < sizeLine ∧ Q (put h p (.dk (putD kvs k v))) := rfl
theorem setK_r {v : D} {Q : Hd → Prop} : setK (.v (.ref p)) x v h Q = setO (h p) p x v h Q := by
  show (match h p with
    | some (.dk kvs) => (match keyD x with
      | some k => kvs.length < sizeLine ∧ Q (put h p (.dk (putD kvs k v)))
      | none => False)
    | some (.dn kvs) => nkT x = true ∧ kvs.length < sizeLine ∧ Q (put h p (.dn (putN kvs x v)))
    | _ => setL (.v (.ref p)) x v h Q) = _
  have hL : setL (.v (.ref p)) x v h Q = (match h p with
    | some (.lst xs) => mInt x fun k => mO (ixN xs.length k) fun j => Q (put h p (.lst (xs.set j v)))
    | _ => False) := by
    cases x with
    | v x =>
      cases x with
      | int k =>
        show (match h p with
          | some (.lst xs) => (match ixN xs.length k with
            | some j => Q (put h p (.lst (xs.set j v)))
            | none => False)
          | _ => False) = _
        cases h p with
        | none => rfl
        | some o =>
          cases o with
          | lst xs =>
            show (match ixN xs.length k with
            | some j => Q (put h p (.lst (xs.set j v)))
            | none => False) = mO (ixN xs.length k) fun j => Q (put h p (.lst (xs.set j v)))
            cases ixN xs.length k <;> rfl
          | _ => rfl
      | _ =>
        show False = _
        cases h p with
        | none => rfl
        | some o => cases o <;> rfl
    | _ =>
      show False = _
      cases h p with
      | none => rfl
      | some o => cases o <;> rfl
  rw [hL]
  cases h p with
  | none => rfl
  | some o =>
    cases o with
    | dk kvs =>
      show (match keyD x with
      | some k => kvs.length < sizeLine ∧ Q (put h p (.dk (putD kvs k v)))
      | none => False) = mO (keyD x) fun k => kvs.length < sizeLine ∧ Q (put h p (.dk (putD kvs k v)))
      cases keyD x <;> rfl
    | _ => rfl
theorem keyD_s : keyD (.v (.str a)) = some (.inr a) := rfl
theorem keyD_i : keyD (.v (.int i)) = some (.inl i) := rfl
end
end
section
variable {α : Type} {a b c d e f g k : α} {l : List α}
theorem at_0 : atI (a :: l) 0 = some a := atI_nat (j := 0) rfl
theorem at_1 : atI (a :: b :: l) 1 = some b := atI_nat (j := 1) rfl
theorem at_2 : atI (a :: b :: c :: l) 2 = some c := atI_nat (j := 2) rfl
theorem at_3 : atI (a :: b :: c :: d :: l) 3 = some d := atI_nat (j := 3) rfl
theorem at_4 : atI (a :: b :: c :: d :: e :: l) 4 = some e := atI_nat (j := 4) rfl
theorem at_5 : atI (a :: b :: c :: d :: e :: f :: l) 5 = some f := atI_nat (j := 5) rfl
theorem at_6 : atI (a :: b :: c :: d :: e :: f :: g :: l) 6 = some g := atI_nat (j := 6) rfl
theorem at_7 : atI (a :: b :: c :: d :: e :: f :: g :: k :: l) 7 = some k := atI_nat (j := 7) rfl
theorem at_m1 : atI (l ++ [a]) (-1) = some a := atI_last l a
theorem ixN_n {n j : Nat} (hj : j < n) : ixN n (j : Int) = some j := by
  unfold ixN
  rw [if_pos (by omega), if_pos (by omega)]
  simp
theorem ix_0 : ixN (a :: l).length 0 = some 0 := ixN_n (j := 0) (by simp)
theorem ix_1 : ixN (a :: b :: l).length 1 = some 1 := ixN_n (j := 1) (by simp)
theorem ix_2 : ixN (a :: b :: c :: l).length 2 = some 2 := ixN_n (j := 2) (by simp)
theorem ix_3 : ixN (a :: b :: c :: d :: l).length 3 = some 3 := ixN_n (j := 3) (by simp)
theorem ix_4 : ixN (a :: b :: c :: d :: e :: l).length 4 = some 4 := ixN_n (j := 4) (by simp)
end
def rds1 := (And.intro @gS.eq_2 (And.intro @gS.eq_3 (And.intro @dC.eq_1 (And.intro @d2.eq_1 (And.intro @d1.eq_1 (And.intro @dAnd.eq_1 (And.intro @dOr.eq_1 (And.intro @dNot.eq_1 (And.intro @dIf.eq_1 (And.intro @dNil.eq_1 (And.intro @dCons.eq_1 (And.intro @dTup.eq_1 (And.intro @dLst.eq_1 (And.intro @dSeq.eq_1 (And.intro @dNext.eq_1 (And.intro @dRet.eq_1 (And.intro @dIfS.eq_1 (And.intro @dDrop.eq_1 (And.intro @nG.eq_1 (And.intro @sS.eq_2 (And.intro @sS.eq_3 (And.intro @subG.eq_1 (And.intro @dAsg.eq_1 (And.intro @dCall.eq_1 (And.intro @dFor.eq_1 (And.intro @dLc.eq_1 (And.intro @dYes.eq_1 (And.intro @wD.eq_1 (And.intro @wD.eq_2 (And.intro @uS.eq_2 (And.intro @uS.eq_3 (And.intro @dNoPart.eq_1 (And.intro @dSl.eq_1 (And.intro @dCB.eq_1 (And.intro @dBM.eq_1 (And.intro @dBM0.eq_1 (And.intro @dNewK.eq_1 trivial)))))))))))))))))))))))))))))))))))))
def rds2 := (And.intro @mO_some (And.intro @mBl_bl (And.intro @mInt_int (And.intro @dVar_s (And.intro @dTest_s (And.intro @d3_s (And.intro @dAndV_s (And.intro @dNotV_s (And.intro @iO_s (And.intro @iAnyX_t (And.intro @iAnyX_k (And.intro @iAnyX_s (And.intro @iAnyX_r (And.intro @iAnyD_s (And.intro @rng1_s (And.intro @rng2_s (And.intro @iRng1D_s (And.intro @iRng2D_s (And.intro @pAdd_i (And.intro @pAdd_s (And.intro @pAdd_t (And.intro @addO_s (And.intro @pAdd_l (And.intro @pSub_i (And.intro @pMul_i (And.intro @pFdv_i (And.intro @pMod_i (And.intro @pPow_i (And.intro @pLt_i (And.intro @pLe_i (And.intro @pGt_i (And.intro @pGe_i (And.intro @pLt_s (And.intro @pLe_s trivial))))))))))))))))))))))))))))))))))
def rds3 := (And.intro @pGt_s (And.intro @pGe_s (And.intro @pEq_i (And.intro @pEq_s (And.intro @pEq_t (And.intro @pEq_non (And.intro @pEq_bl (And.intro @pNe_i (And.intro @pNe_s (And.intro @pNe_t (And.intro @pNe_non (And.intro @pNe_bl (And.intro @itO_l (And.intro @itO_d (And.intro @pIt_t (And.intro @pIt_k (And.intro @pIt_s (And.intro @pIt_r (And.intro @pNeg_i (And.intro @pIs_n (And.intro @pIsNot_n (And.intro @isN_non (And.intro @isN_int (And.intro @isN_bl (And.intro @isN_str (And.intro @isN_t (And.intro @isN_ref (And.intro @memO_l (And.intro @memO_d (And.intro @pMemB_t (And.intro @pMemB_s (And.intro @pMemB_r (And.intro @dPart_s (And.intro @slO_l (And.intro @pSl_t (And.intro @pSl_k (And.intro @pSl_s (And.intro @pSl_r (And.intro @cInt_i (And.intro @cInt_b trivial))))))))))))))))))))))))))))))))))))))))
def rds4 := (And.intro @lenO_l (And.intro @lenO_d (And.intro @cLen_t (And.intro @cLen_k (And.intro @cLen_s (And.intro @cLen_r (And.intro @tupO_l (And.intro @cTuple_t (And.intro @cTuple_r (And.intro @lstO_l (And.intro @cList_t (And.intro @cList_s (And.intro @cList_r (And.intro @cIsi_s (And.intro @tyO_l (And.intro @tyO_d (And.intro @ty_non (And.intro @ty_bl (And.intro @ty_int (And.intro @ty_str (And.intro @ty_t (And.intro @ty_r (And.intro @tymO_l (And.intro @tymO_d (And.intro @tyM_s (And.intro @tyM_r (And.intro @appO_l (And.intro @mAppend_s (And.intro @setO_l (And.intro @setO_d (And.intro @setK_r trivial)))))))))))))))))))))))))))))))
def rds5 := (And.intro @keyD_s (And.intro @keyD_i (And.intro @st_NoneType_int (And.intro @st_NoneType_bool (And.intro @st_NoneType_str (And.intro @st_NoneType_tuple (And.intro @st_NoneType_list (And.intro @st_NoneType_dict (And.intro @st_bool_int (And.intro @st_bool_bool (And.intro @st_bool_str (And.intro @st_bool_tuple (And.intro @st_bool_list (And.intro @st_bool_dict (And.intro @st_int_int (And.intro @st_int_bool (And.intro @st_int_str (And.intro @st_int_tuple (And.intro @st_int_list (And.intro @st_int_dict (And.intro @st_str_int (And.intro @st_str_bool (And.intro @st_str_str (And.intro @st_str_tuple (And.intro @st_str_list (And.intro @st_str_dict (And.intro @st_tuple_int (And.intro @st_tuple_bool (And.intro @st_tuple_str (And.intro @st_tuple_tuple (And.intro @st_tuple_list (And.intro @st_tuple_dict (And.intro @st_list_int (And.intro @st_list_bool (And.intro @st_list_str (And.intro @st_list_tuple trivial))))))))))))))))))))))))))))))))))))
def rds6 := (And.intro @st_list_list (And.intro @st_list_dict (And.intro @st_dict_int (And.intro @st_dict_bool (And.intro @st_dict_str (And.intro @st_dict_tuple (And.intro @st_dict_list (And.intro @st_dict_dict (And.intro @tk_int (And.intro @tk_bool (And.intro @tk_str (And.intro @tk_tuple (And.intro @tk_list (And.intro @tk_dict (And.intro @wN_nx (And.intro @wN_rt (And.intro @wN_bk (And.intro @wN_ct (And.intro @wL_nx (And.intro @wL_rt (And.intro @wL_bk (And.intro @wL_ct (And.intro @at_0 (And.intro @at_1 (And.intro @at_2 (And.intro @at_3 (And.intro @at_4 (And.intro @at_5 (And.intro @at_6 (And.intro @at_7 (And.intro @at_m1 (And.intro @ix_0 (And.intro @ix_1 (And.intro @ix_2 (And.intro @ix_3 (And.intro @ix_4 (And.intro @put_same (And.intro @put_ne (And.intro @put_put (And.intro @dIte_true trivial))))))))))))))))))))))))))))))))))))))))
theorem nkT_t : nkT (.t xs) = nksOk 7 xs := rfl
theorem nksOk_n {n : Nat} : nksOk n [] = true := by unfold nksOk; rfl
theorem nksOk_c {n : Nat} {x : D} : nksOk n (x :: xs) = (nkOk n x && nksOk n xs) := by rw [nksOk]
theorem nkOk_i {n : Nat} {i : Int} : nkOk n (.v (.int i)) = true := by cases n <;> rfl
theorem nkOk_s {n : Nat} {a : Str} : nkOk n (.v (.str a)) = true := by cases n <;> rfl
theorem nkOk_b {n : Nat} {k : Bool} : nkOk n (.v (.bl k)) = true := by cases n <;> rfl
theorem nkOk_o {n : Nat} : nkOk n (.v .non) = true := by cases n <;> rfl
theorem nkOk_t {n : Nat} : nkOk (n + 1) (.t xs) = nksOk n xs := rfl
theorem valN_n {y : D} : valN [] y = none := rfl
def rds7 := (And.intro @dIte_false (And.intro @itO_n (And.intro @memO_n (And.intro @setO_n (And.intro @nkT_t (And.intro @nksOk_n (And.intro @nksOk_c (And.intro @nkOk_i (And.intro @nkOk_s (And.intro @nkOk_b (And.intro @nkOk_o (And.intro @nkOk_t (And.intro @valN_n trivial)))))))))))))
end DL
namespace DL
open PySem L2
theorem mO_ex {α : Type} {o : Option α} {k : α → Prop} (q : mO o k) : ∃ a, o = some a ∧ k a := by
  cases o with
  | none => exact q.elim
  | some a => exact ⟨a, rfl, q⟩
def intsOf : List D → Option (List Int)
  | [] => some []
  | .v (.int i) :: r => match intsOf r with
    | some ns => some (i :: ns)
    | none => none
  | _ => none
theorem intsOf_ok : ∀ {ds : List D} {ns : List Int}, intsOf ds = some ns → ds = intsD ns
  | [], ns, h => by cases h; rfl
  | .v (.int i) :: r, ns, h => by
    unfold intsOf at h
    split at h
    · rename_i q
      cases h
      rw [intsOf_ok q]; rfl
    · cases h
  | .v .non :: _, _, h => by cases h
  | .v (.bl _) :: _, _, h => by cases h
  | .v (.str _) :: _, _, h => by cases h
  | .v (.byt _) :: _, _, h => by cases h
  | .v (.flt _) :: _, _, h => by cases h
  | .v (.ref _) :: _, _, h => by cases h
  | .v (.ty _) :: _, _, h => by cases h
  | .t _ :: _, _, h => by cases h
  | .k _ :: _, _, h => by cases h
theorem rps_ints {K : PySem.W.Frag} {H : Hp} {ns : List Int} {vs : List V} (r : Rps K H (intsD ns) vs) : vs = ns.map V.int := by
  refine Rps.ofV (K := K) (H := H) ?_
  rw [List.map_map]
  exact r
theorem rps_ints' {K : PySem.W.Frag} {H : Hp} {ns : List Int} : Rps K H (intsD ns) (ns.map V.int) := by
  have := Rps.mapV (K := K) (H := H) (xs := ns.map V.int)
  rw [List.map_map] at this
  exact this
def maxI : List Int → Int
  | [] => 0
  | x :: r => r.foldl (fun a b => if a < b then b else a) x
theorem maxI_go : ∀ (r : List Int) (x : Int), r.foldl (fun a b => if a < b then b else a) x ∈ x :: r ∧ ∀ y, y ∈ x :: r → y ≤ r.foldl (fun a b => if a < b then b else a) x
  | [], x => ⟨List.mem_singleton.mpr rfl, fun y hy => by rw [List.mem_singleton.mp hy]; exact Int.le_refl _⟩
  | z :: r, x => by
    obtain ⟨h1, h2⟩ := maxI_go r (if x < z then z else x)
    rw [List.foldl_cons]
    refine ⟨?_, fun y hy => ?_⟩
    · rcases List.mem_cons.mp h1 with e | e
      · rw [e]
        split
        · exact List.mem_cons_of_mem _ List.mem_cons_self
        · exact List.mem_cons_self
      · exact List.mem_cons_of_mem _ (List.mem_cons_of_mem _ e)
    · have h3 := h2 _ List.mem_cons_self
      have h4 : x ≤ (if x < z then z else x) ∧ z ≤ (if x < z then z else x) := by split <;> omega
      rcases List.mem_cons.mp hy with e | hy
      · subst e; omega
      rcases List.mem_cons.mp hy with e | hy
      · subst e; omega
      · exact h2 y (List.mem_cons_of_mem _ hy)
theorem maxI_mem {ns : List Int} (h : ns ≠ []) : maxI ns ∈ ns := by
  cases ns with
  | nil => exact (h rfl).elim
  | cons x r => exact (maxI_go r x).1
theorem maxI_ge {ns : List Int} {y : Int} (h : y ∈ ns) : y ≤ maxI ns := by
  cases ns with
  | nil => cases h
  | cons x r => exact (maxI_go r x).2 y h
section
variable {X : Cx}
theorem io_nil : intsOf [] = some [] := rfl
def conI (i : Int) (o : Option (List Int)) : Option (List Int) := match o with
  | some ns => some (i :: ns)
  | none => none
theorem conI_s {i : Int} {ns : List Int} : conI i (some ns) = some (i :: ns) := rfl
theorem io_cons {i : Int} {r : List D} : intsOf (.v (.int i) :: r) = conI i (intsOf r) := by
  unfold conI
  rw [intsOf]
inductive BxS (Q : List Int → Prop) : Type
  | mk
def srt (ns : List Int) (Q : List Int → Prop) (_ : BxS Q) : Prop := ∀ ns' : List Int, ns'.Perm ns → ns'.Pairwise (· ≤ ·) → Q ns'
theorem srt_i {ns : List Int} {Q : List Int → Prop} {b : BxS Q} (h : ∀ ns' : List Int, ns'.Perm ns → ns'.Pairwise (· ≤ ·) → Q ns') : srt ns Q b := h
def sortX (ds : List D) (h : Hd) (Q : KD) : Prop := mO (intsOf ds) fun ns => srt ns (fun ns' => al h (fun p => Q (.v (.ref p)) (put h p (.lst (intsD ns')))) .mk) .mk
def mSplit : MD := fun x ds h Q => match x, ds with
  | .v (.str a), [.v (.str b)] => (b.length == 0) = false ∧ a.length + 2 ≤ sizeLine ∧ al h (fun p => Q (.v (.ref p)) (put h p (.lst ((Txt.split a b).map fun z => .v (.str z))))) .mk
  | _, _ => False
theorem rps_strs' {K : PySem.W.Frag} {H : Hp} {zs : List Str} : Rps K H (zs.map fun z => D.v (.str z)) (zs.map V.str) := by
  have := Rps.mapV (K := K) (H := H) (xs := zs.map V.str)
  rw [List.map_map] at this
  exact this
theorem dm_split : DMt X "str.split" mSplit := dmt_of mt_split fun x xs H Q ⟨dx, ds, h, Qd, rx, rv, rh, q, o⟩ => by
  unfold mSplit at q
  split at q
  · cases rx
    cases rv with
    | cons r1 r2 =>
      cases r2; cases r1
      exact ⟨_, _, rfl, rfl, q.1, q.2.1, fun p hp => o _ _ _ _ (q.2.2 p (rh.free hp)) (Go.new rh hp ⟨_, rfl, rps_strs'⟩) (.v _)⟩
  · exact q.elim
theorem mSplit_s {a b : Str} {h : Hd} {Q : KD} : mSplit (.v (.str a)) [.v (.str b)] h Q = ((b.length == 0) = false ∧ a.length + 2 ≤ sizeLine ∧ al h (fun p => Q (.v (.ref p)) (put h p (.lst ((Txt.split a b).map fun z => .v (.str z))))) .mk) := rfl
def mUpper : MD := fun x ds h Q => match x, ds with
  | .v (.str a), [] => a.length ≤ 5592405 ∧ Q (.v (.str (Txt.upper a))) h
  | _, _ => False
theorem dm_upper : DMt X "str.upper" mUpper := dmt_of mt_upper fun x xs H Q ⟨dx, ds, h, Qd, rx, rv, rh, q, o⟩ => by
  unfold mUpper at q
  split at q
  · cases rx; cases rv
    exact ⟨_, rfl, rfl, q.1, o _ h _ H q.2 (Go.refl rh) (.v _)⟩
  · exact q.elim
theorem mUpper_s {a : Str} {h : Hd} {Q : KD} : mUpper (.v (.str a)) [] h Q = (a.length ≤ 5592405 ∧ Q (.v (.str (Txt.upper a))) h) := rfl
def ixD (y : D) : List D → Option Nat
  | [] => none
  | x :: r => if eqD x y = true then some 0 else (ixD y r).map Nat.succ
theorem ixD_ok {y : D} : ∀ {ds : List D} {j : Nat}, ixD y ds = some j → (∃ z, ds[j]? = some z ∧ eqD z y = true) ∧ ∀ m z', m < j → ds[m]? = some z' → eqD z' y = false
  | [], j, e => by cases e
  | x :: r, j, e => by
    unfold ixD at e
    by_cases c : eqD x y = true
    · rw [if_pos c] at e
      cases e
      exact ⟨⟨x, rfl, c⟩, fun m z' hm => (Nat.not_lt_zero _ hm).elim⟩
    · rw [if_neg c] at e
      cases e1 : ixD y r with
      | none => rw [e1] at e; cases e
      | some k =>
        rw [e1] at e
        cases e
        obtain ⟨⟨z, h1, h2⟩, h3⟩ := ixD_ok e1
        refine ⟨⟨z, by simpa using h1, h2⟩, fun m z' hm hz => ?_⟩
        cases m with
        | zero =>
          simp at hz
          subst hz
          exact Bool.eq_false_iff.mpr c
        | succ m => exact h3 m z' (Nat.lt_of_succ_lt_succ hm) (by simpa using hz)
def ixX (xs : List D) (y : D) (h : Hd) (Q : KD) : Prop := flatD y = true ∧ xs.all flatD = true ∧ mO (ixD y xs) fun j => Q (.v (.int (j : Nat))) h
def mIndex : MD := fun x ds h Q => match x, ds with
  | .v (.ref a), [y] => mO (rdL h a) fun xs => ixX xs y h Q
  | _, _ => False
theorem dm_index : DMt X "list.index" mIndex := dmt_of mt_index fun x xs H Q ⟨dx, ds, h, Qd, rx, rv, rh, q, o⟩ => by
  unfold mIndex at q
  split at q
  · obtain ⟨xs, e, f1, f2, q⟩ := mO_ex q
    obtain ⟨j, e3, q9⟩ := mO_ex q
    cases rx
    cases rv with
    | cons r1 r2 =>
      cases r2
      obtain ⟨vs, sq, r⟩ := rdL_ok rh e
      obtain ⟨e1, g1⟩ := flatD_v f1 r1
      obtain ⟨e2, g2⟩ := flatD_vs f2 r
      subst e1 e2
      obtain ⟨⟨z, h1, h2⟩, h3⟩ := ixD_ok e3
      rw [List.getElem?_map] at h1
      cases e4 : vs[j]? with
      | none => rw [e4] at h1; cases h1
      | some zv =>
        rw [e4] at h1
        cases h1
        unfold eqD at h2
        refine ⟨_, vs, _, j, zv, rfl, rfl, sq, g1, g2, e4, h2, fun m z' hm hz => ?_, o _ h _ H q9 (Go.refl rh) (.v _)⟩
        have := h3 m (.v z') hm (by rw [List.getElem?_map, hz]; rfl)
        unfold eqD at this
        exact this
  · exact q.elim
def ixO (o : Option O) (y : D) (h : Hd) (Q : KD) : Prop := match o with
  | some (.lst xs) => ixX xs y h Q
  | _ => False
theorem ixO_l {xs : List D} {y : D} {h : Hd} {Q : KD} : ixO (some (.lst xs)) y h Q = ixX xs y h Q := rfl
theorem mIndex_r {a : Addr} {y : D} {h : Hd} {Q : KD} : mIndex (.v (.ref a)) [y] h Q = ixO (h a) y h Q := by
  show mO (rdL h a) (fun xs => ixX xs y h Q) = _
  unfold rdL
  cases h a with
  | none => rfl
  | some o => cases o <;> rfl
end
def rds8 := (And.intro @io_nil (And.intro @conI_s (And.intro @io_cons (And.intro @mSplit_s (And.intro @mUpper_s (And.intro @ixO_l (And.intro @mIndex_r (And.intro @sortX.eq_1 (And.intro @ixX.eq_1 trivial)))))))))
end DL
namespace DL
open PySem L2
inductive DKs (X : Cx) (B : Bs) : List (Option Expr) → List Expr → List (Key × D) → Prop
  | nil : DKs X B [] [] []
  | cons {k v : Expr} {ks : List (Option Expr)} {vs : List Expr} {key : Key} {d : D} {r : List (Key × D)} : DE X B k (dC (.v (kV key))) → DE X B v (dC d) → DKs X B ks vs r → DKs X B (some k :: ks) (v :: vs) ((key, d) :: r)
theorem DKs.len {X : Cx} {B : Bs} : ∀ {ks : List (Option Expr)} {vs : List Expr} {r : List (Key × D)}, DKs X B ks vs r → r.length = ks.length ∧ ks.length = vs.length ∧ ks.all (·.isSome) = true
  | _, _, _, .nil => ⟨rfl, rfl, rfl⟩
  | _, _, _, .cons _ _ t => by
    obtain ⟨h1, h2, h3⟩ := t.len
    exact ⟨congrArg Nat.succ h1, congrArg Nat.succ h2, by simpa using h3⟩
section
variable {X : Cx} {B : Bs}
end
end DL
namespace DL
open PySem L2
def dComp2 (g : GD) (tt : TD) (wi1 : ID) (g1 : GD) (tt1 : TD) (te : ED) (vs1 : List Nat) (chk : Hd → Prop) : List D → List D → Sd → Hd → (List D → Hd → Prop) → Prop
  | [], acc, _, h, Q => chk h ∧ Q acc h
  | x :: xs, acc, σ, h, Q => chk h ∧ g x σ h fun σ2 h2 => tt σ2 h2 fun b h3 => dIte (b = true) (wi1 σ2 h3 fun items1 chk1 h4 => dComp g1 tt1 te chk1 items1 acc (wD σ2 vs1) h4 fun acc' h5 => dComp2 g tt wi1 g1 tt1 te vs1 chk xs acc' σ h5 Q) (dComp2 g tt wi1 g1 tt1 te vs1 chk xs acc σ h3 Q) .mk
def cmp2 (g : GD) (tt : TD) (wi1 : ID) (g1 : GD) (tt1 : TD) (te : ED) (vs1 : List Nat) (chk : Hd → Prop) (items : List D) (σ : Sd) (h : Hd) (Q : List D → Hd → Prop) (_ : BxC Q) : Prop := dComp2 g tt wi1 g1 tt1 te vs1 chk items [] σ h Q
def dLc2 (wi : ID) (g : GD) (tt : TD) (wi1 : ID) (g1 : GD) (tt1 : TD) (te : ED) (vs vs1 : List Nat) : ED := fun σ h Q => wi σ h fun items chk h1 => cmp2 g tt wi1 g1 tt1 te vs1 chk items (wD σ vs) h1 (fun ys h2 => ∀ p, h2 p = none → Q (.v (.ref p)) (put h2 p (.lst ys))) .mk
section
variable {X : Cx} {B : Bs} {E : ER}
theorem go_hs {G : Gv} {H1 H2 : Hp} {h1 h2 : Hd} {D : Addr} {w u : HO} (g : Go G H1 h1 H2 h2) (n1 : H1 D = none) (f2 : h2 D = none) (e2 : H2 D = some w) (m : Mt w) : Go G H1 h1 (upd H2 D u) h2 :=
  ⟨g.st.trans (Stb.set e2 m), fun a o' e' n => by
    have z : a ≠ D := ne_of_none e' n1
    exact ⟨by rw [upd_ne z]; exact (g.fr a o' e' n).1, (g.fr a o' e' n).2⟩, fun b o' e' => by
    have z : b ≠ D := fun z => by rw [z, f2] at e'; cases e'
    obtain ⟨u, eu, ou⟩ := g.rh b o' e'
    exact ⟨u, by rw [upd_ne z]; exact eu, ou.stb (Stb.set e2 m)⟩⟩
theorem lc2_of {wi wi1 : ID} {gV gV1 : TG} {g g1 : GD} {tt tt1 : TD} {te : ED} {vs vs1 : List Nat} {G : Gv} {σV : St} {H : Hp} {QV : VK} (gw : GW G gV g vs) (gw1 : GW G gV1 g1 vs1) (q : lE G B (dLc2 wi g tt wi1 g1 tt1 te vs vs1) σV H QV) :
    tLc2 (lI G B wi) gV (lT G B tt) (lI G B wi1) gV1 (lT G B tt1) (lE G B te) vs vs1 σV H QV := by
  obtain ⟨σ, h, Q, r0, q, o⟩ := q
  refine ⟨σ, h, _, r0, q, fun items chk h1 H1 J q1 g1' jo D hD => ?_⟩
  have hD1 : h1 D = none := g1'.rh.free hD
  refine ⟨fun i m H' => ∃ h' acc accV, Go G H1 h1 H' h' ∧ h' D = none ∧ H' D = some (.lst accV) ∧ Rps G.K H' acc accV ∧ m = items.length - i ∧ i ≤ items.length ∧ dComp2 g tt wi1 g1 tt1 te vs1 chk (items.drop i) acc (wD σ vs) h' (fun ys h2 => ∀ p, h2 p = none → Q (.v (.ref p)) (put h2 p (.lst ys))),
    ⟨items.length, h1, [], [], Go.hid g1'.rh hD, hD1, upd_same, .nil, by simp, Nat.zero_le _, by simpa [cmp2] using q1⟩, ?_⟩
  rintro i m H' ⟨h', acc, accV, g12, nD, eD, ra, rfl, hi, ql⟩
  by_cases hlt : i < items.length
  · rw [List.drop_eq_getElem_cons hlt] at ql
    obtain ⟨hc, ql⟩ := ql
    refine .inr ⟨jo.go i H' h' g12.st g12.rh hc hlt, fun H2 => ∃ h2 acc2 accV2, Go G H1 h1 H2 h2 ∧ h2 D = none ∧ H2 D = some (.lst accV2) ∧ Rps G.K H2 acc2 accV2 ∧ dComp2 g tt wi1 g1 tt1 te vs1 chk (items.drop (i + 1)) acc2 (wD σ vs) h2 (fun ys h2 => ∀ p, h2 p = none → Q (.v (.ref p)) (put h2 p (.lst ys))),
      fun H2 ⟨h2, acc2, accV2, a1, a2, a3, a4, a5⟩ => ⟨items.length - (i + 1), by omega, h2, acc2, accV2, a1, a2, a3, a4, rfl, hlt, a5⟩, fun x H3 y => ?_⟩
    obtain ⟨d, ed, rd, g3⟩ := jo.yld i H' h' x H3 g12.st g12.rh hc hlt y
    rw [List.getElem?_eq_getElem hlt] at ed
    cases ed
    have g03 : Go G H h H3 h' := g1'.trans (g12.trans g3)
    have rw3 : RelS G H3 (wD σ vs) (wipe σV vs) := relS_wipe (r0.s.stb g03.st) vs
    refine gw.run _ x (wD σ vs) h' _ H3 _ _ rd rw3 ql fun σ4 σV4 q4 r4 w4 => ⟨w4.trans (wipe_wipe σV vs), ?_⟩
    refine ⟨σ4, h', _, ⟨r0.go.trans g03, r4⟩, q4, fun b h5 H5 q5 g5 => ?_⟩
    have g25 : Go G H' h' H5 h5 := g3.trans g5
    have fD5 := g25.fr D _ eD nD
    cases b with
    | false =>
      refine iteF ⟨h5, acc, accV, g12.trans g25, fD5.2, fD5.1, ra.stb g25.st, (by simpa [dIte] using q5)⟩
    | true =>
      refine iteT ⟨σ4, h5, _, ⟨r0.go.trans (g03.trans g5), r4.stb g5.st⟩, (by simpa [dIte] using q5), fun items1 chk1 h6 H6 J1 q6 g6 jo1 => ?_⟩
      have g26 := g25.trans g6
      have fD6 := g26.fr D _ eD nD
      have g16 := g12.trans g26
      refine ⟨fun j k Hc => ∃ hc acc accV, Go G H1 h1 Hc hc ∧ Stb H6 Hc ∧ hc D = none ∧ Hc D = some (.lst accV) ∧ Rps G.K Hc acc accV ∧ k = items1.length - j ∧ j ≤ items1.length ∧ dComp g1 tt1 te chk1 (items1.drop j) acc (wD σ4 vs1) hc (fun acc' h5 => dComp2 g tt wi1 g1 tt1 te vs1 chk (items.drop (i + 1)) acc' (wD σ vs) h5 (fun ys h2 => ∀ p, h2 p = none → Q (.v (.ref p)) (put h2 p (.lst ys)))),
        ⟨items1.length, h6, acc, accV, g16, Stb.refl _, fD6.2, fD6.1, ra.stb g26.st, by simp, Nat.zero_le _, by simpa using q6⟩, ?_⟩
      rintro j k Hc ⟨hc1, acc, accV, gc, sc, nD, eD, ra, rfl, hj, qj⟩
      by_cases hlj : j < items1.length
      · rw [List.drop_eq_getElem_cons hlj] at qj
        obtain ⟨hcj, qj⟩ := qj
        refine .inr ⟨jo1.go j Hc hc1 sc gc.rh hcj hlj, fun H2 => ∃ h2 acc2 accV2, Go G H1 h1 H2 h2 ∧ Stb H6 H2 ∧ h2 D = none ∧ H2 D = some (.lst accV2) ∧ Rps G.K H2 acc2 accV2 ∧ dComp g1 tt1 te chk1 (items1.drop (j + 1)) acc2 (wD σ4 vs1) h2 (fun acc' h5 => dComp2 g tt wi1 g1 tt1 te vs1 chk (items.drop (i + 1)) acc' (wD σ vs) h5 (fun ys h2 => ∀ p, h2 p = none → Q (.v (.ref p)) (put h2 p (.lst ys)))),
          fun H2 ⟨h2, acc2, accV2, a1, a0, a2, a3, a4, a5⟩ => ⟨items1.length - (j + 1), by omega, h2, acc2, accV2, a1, a0, a2, a3, a4, rfl, hlj, a5⟩, fun x1 H7 y1 => ?_⟩
        obtain ⟨d1, ed1, rd1, g7⟩ := jo1.yld j Hc hc1 x1 H7 sc gc.rh hcj hlj y1
        rw [List.getElem?_eq_getElem hlj] at ed1
        cases ed1
        have gB : Go G H h Hc hc1 := g1'.trans gc
        have s47 : Stb H3 H7 := (g5.st.trans g6.st).trans (sc.trans g7.st)
        have rw7 : RelS G H7 (wD σ4 vs1) (wipe σV4 vs1) := relS_wipe (r4.stb s47) vs1
        refine gw1.run _ x1 (wD σ4 vs1) hc1 _ H7 _ _ rd1 rw7 qj fun σ8 σV8 q8 r8 w8 => ⟨w8.trans (wipe_wipe σV4 vs1), ?_⟩
        refine ⟨σ8, hc1, _, ⟨r0.go.trans (gB.trans g7), r8⟩, q8, fun b9 h9 H9 q9 g9 => ?_⟩
        have g79 := g7.trans g9
        have fD9 := g79.fr D _ eD nD
        cases b9 with
        | false => exact iteF ⟨h9, acc, accV, gc.trans g79, sc.trans g79.st, fD9.2, fD9.1, ra.stb g79.st, (by simpa [dIte] using q9)⟩
        | true =>
          refine iteT ⟨σ8, h9, _, ⟨r0.go.trans (gB.trans g79), r8.stb g9.st⟩, (by simpa [dIte] using q9), fun yd hA yv HA qA gA rA => ?_⟩
          have g7A := g79.trans gA
          have fDA := g7A.fr D _ eD nD
          refine ⟨accV, fDA.1, by rw [← ra.length]; exact qA.1, hA, acc ++ [yd], accV ++ [yv], go_hs (gc.trans g7A) hD fDA.2 fDA.1 trivial, (sc.trans g7A.st).trans (Stb.set fDA.1 trivial), fDA.2, upd_same, ?_, qA.2⟩
          exact ((ra.stb g7A.st).append (.cons rA .nil)).stb (Stb.set fDA.1 trivial)
      · rw [List.drop_eq_nil_of_le (by omega)] at qj
        obtain ⟨hcj, qj⟩ := qj
        exact .inl ⟨jo1.stop j Hc hc1 sc gc.rh hcj (by omega), hc1, acc, accV, gc, nD, eD, ra, qj⟩
  · rw [List.drop_eq_nil_of_le (by omega)] at ql
    obtain ⟨hc, ql⟩ := ql
    have g02 := g1'.trans g12
    refine .inl ⟨jo.stop i H' h' g12.st g12.rh hc (by omega), o _ _ _ H' (ql D nD) ⟨g02.st, fun a o' e' n => ?_, fun b o' e' => ?_⟩ (.v _)⟩
    · have z : a ≠ D := ne_of_none (g1'.fr a o' e' n).1 hD
      exact ⟨(g02.fr a o' e' n).1, by rw [put_ne z]; exact (g02.fr a o' e' n).2⟩
    · by_cases z : b = D
      · subst z
        rw [put_same] at e'; cases e'
        exact ⟨_, eD, accV, rfl, ra⟩
      · rw [put_ne z] at e'
        exact g02.rh b o' e'
theorem de_lc2 {elt tg iter tg1 iter1 : Expr} {ifs ifs1 : List Expr} {scope : Scope} {own : List (Str × Nat)} {vs1 : List Nat} {pos : Pos} {wi wi1 : ID} {gV gV1 : TG} {g g1 : GD} {tt tt1 : TD} {te : ED} (rg : Rg X B E) (hN : X.N.Nodup) (hi : DI X B tg iter wi) (ok : BlkOk X.N X.env.scope scope own)
    (hg : ∀ (s : Shared) (H : Hp) (C : Addr) (cl : List (Str × Addr)) (fp : List Addr), PG (X.blk s H scope (compEnvC scope cl C X.env) fp) tg gV) (gw : GW X.gv gV g (own.map (·.2)))
    (ht : ∀ (s : Shared) (H : Hp) (C : Addr) (cl : List (Str × Addr)) (fp : List Addr), DTs (X.blk s H scope (compEnvC scope cl C X.env) fp) B ifs tt)
    (hi1 : ∀ (s : Shared) (H : Hp) (C : Addr) (cl : List (Str × Addr)) (fp : List Addr), DI (X.blk s H scope (compEnvC scope cl C X.env) fp) B tg1 iter1 wi1)
    (hg1 : ∀ (s : Shared) (H : Hp) (C : Addr) (cl : List (Str × Addr)) (fp : List Addr), PG (X.blk s H scope (compEnvC scope cl C X.env) fp) tg1 gV1) (gw1 : GW X.gv gV1 g1 vs1)
    (ht1 : ∀ (s : Shared) (H : Hp) (C : Addr) (cl : List (Str × Addr)) (fp : List Addr), DTs (X.blk s H scope (compEnvC scope cl C X.env) fp) B ifs1 tt1)
    (he : ∀ (s : Shared) (H : Hp) (C : Addr) (cl : List (Str × Addr)) (fp : List Addr), DE (X.blk s H scope (compEnvC scope cl C X.env) fp) B elt te) (hv : ∀ i ∈ vs1, i ∈ own.map (·.2) := by decide) (hs : ∀ x, foldedSetIterable iter X.env x = pure x := by intro _; rfl) (hs1 : ∀ env x, foldedSetIterable iter1 env x = pure x := by intro _ _; rfl) :
    DE X B (.ListComp elt [⟨tg, iter, ifs, 0⟩, ⟨tg1, iter1, ifs1, 0⟩] scope pos) (dLc2 wi g tt wi1 g1 tt1 te (own.map (·.2)) vs1) :=
  PE.imp (pe_lc2 (tt := lT X.gv B tt) (tt1 := lT X.gv B tt1) (te := lE X.gv B te) (wi1 := lI X.gv B wi1) rg.calm hN hi ok hv hg ht hi1 hg1 ht1 he hs hs1) fun σV H QV q => lc2_of gw gw1 q
end
theorem cmp2_of {g : GD} {tt : TD} {wi1 : ID} {g1 : GD} {tt1 : TD} {te : ED} {vs1 : List Nat} {chk : Hd → Prop} {items : List D} {σ : Sd} {h : Hd} {Q : List D → Hd → Prop} {b : BxC Q} (f : D → List D) (hc : chk h) (hl : (items.flatMap f).length ≤ 1000000)
    (step : ∀ x, x ∈ items → ∀ (S : List D → Hd → Prop) (N : Hd → Prop) (acc : List D), acc.length + (f x).length ≤ 1000000 → S (acc ++ f x) h → g x σ h fun σ2 h2 => tt σ2 h2 fun c h3 => dIte (c = true) (wi1 σ2 h3 fun items1 chk1 h4 => dComp g1 tt1 te chk1 items1 acc (wD σ2 vs1) h4 S) (N h3) .mk)
    (q : Q (items.flatMap f) h) : cmp2 g tt wi1 g1 tt1 te vs1 chk items σ h Q b := by
  suffices ∀ (l acc : List D), (∀ x, x ∈ l → x ∈ items) → acc.length + (l.flatMap f).length ≤ 1000000 → Q (acc ++ l.flatMap f) h → dComp2 g tt wi1 g1 tt1 te vs1 chk l acc σ h Q from this items [] (fun _ h => h) (by simpa using hl) (by simpa using q)
  intro l
  induction l with
  | nil => intro acc _ _ q; exact ⟨hc, by simpa using q⟩
  | cons x r ih =>
    intro acc hm hz q
    rw [List.flatMap_cons, List.length_append] at hz
    refine ⟨hc, step x (hm x List.mem_cons_self) _ _ acc (by omega) (ih _ (fun z hz => hm z (List.mem_cons_of_mem _ hz)) (by rw [List.length_append]; omega) ?_)⟩
    rw [List.flatMap_cons] at q
    rw [List.append_assoc]
    exact q
theorem comp_map {g : GD} {tt : TD} {te : ED} {chk : Hd → Prop} {σ : Sd} {h : Hd} {Q : List D → Hd → Prop} (f : D → D) (hc : chk h) : ∀ {items acc : List D}, acc.length + items.length ≤ 1000000 →
    (∀ x, x ∈ items → ∀ (S : D → Hd → Prop) (N : Hd → Prop), S (f x) h → g x σ h fun σ2 h2 => tt σ2 h2 fun c h3 => dIte (c = true) (te σ2 h3 S) (N h3) .mk) → Q (acc ++ items.map f) h → dComp g tt te chk items acc σ h Q
  | [], acc, _, _, q => ⟨hc, by simpa using q⟩
  | x :: r, acc, hl, step, q => by
    rw [List.length_cons] at hl
    refine ⟨hc, step x List.mem_cons_self _ _ ⟨Nat.lt_of_lt_of_le (show acc.length < 1000001 by omega) (by decide), comp_map f hc (by rw [List.length_append]; simp only [List.length_cons, List.length_nil]; omega) (fun z hz => step z (List.mem_cons_of_mem _ hz)) ?_⟩⟩
    rw [List.append_assoc]
    exact q
def rds9 := (And.intro @dLc2.eq_1 trivial)
end DL
namespace DL
open PySem L2 PySem.Spec PyProof.Rows
section
variable {kx vx t0 i0 t1 i1 : Expr} {f0 f1 : List Expr} {sc : Scope} {p : Pos} {it : Value} {D : Addr} {env : Env}
variable {prog : Program} {w : World} {A : Around} {R : Result → Shared → Prop} {s : Shared}
abbrev ex (prog : Program) (w : World) (A : Around) (env : Env) (R : Result → Shared → Prop) : Value → Shared → Prop := notedBy (model prog w) A env fun e z => R (.error e) z
end
section
variable {X : Cx}
end
def dDComp (g : GD) (tt : TD) (tk tv : ED) (chk : Hd → Prop) : List D → List (Key × D) → Sd → Hd → (List (Key × D) → Hd → Prop) → Prop
  | [], acc, _, h, Q => chk h ∧ Q acc h
  | x :: xs, acc, σ, h, Q => chk h ∧ g x σ h fun σ2 h2 => tt σ2 h2 fun b h3 => dIte (b = true) (tk σ2 h3 fun y h4 => tv σ2 h4 fun z h5 => mO (keyD y) fun key => acc.length < sizeLine ∧ dDComp g tt tk tv chk xs (putD acc key z) σ h5 Q) (dDComp g tt tk tv chk xs acc σ h3 Q) .mk
inductive BxD (Q : List (Key × D) → Hd → Prop) : Type
  | mk
def dcm (g : GD) (tt : TD) (tk tv : ED) (chk : Hd → Prop) (items : List D) (σ : Sd) (h : Hd) (Q : List (Key × D) → Hd → Prop) (_ : BxD Q) : Prop := dDComp g tt tk tv chk items [] σ h Q
def dDc (wi : ID) (g : GD) (tt : TD) (tk tv : ED) (vs : List Nat) : ED := fun σ h Q => wi σ h fun items chk h1 => dcm g tt tk tv chk items (wD σ vs) h1 (fun ys h2 => ∀ p, h2 p = none → Q (.v (.ref p)) (put h2 p (.dk ys))) .mk
section
variable {X : Cx} {B : Bs} {E : ER}
theorem dc_of {wi : ID} {gV : TG} {g : GD} {tt : TD} {tk tv : ED} {vs : List Nat} {G : Gv} {σV : L2.St} {H : Hp} {QV : VK} (gw : GW G gV g vs) (q : lE G B (dDc wi g tt tk tv vs) σV H QV) : tDc (lI G B wi) gV (lT G B tt) (lE G B tk) (lE G B tv) vs σV H QV := by
  obtain ⟨σ, h, Q, r0, q, o⟩ := q
  refine ⟨σ, h, _, r0, q, fun items chk h1 H1 J q1 g1 jo D hD => ?_⟩
  have hD1 : h1 D = none := g1.rh.free hD
  refine ⟨fun i m H' => ∃ h' acc accV, Go G H1 h1 H' h' ∧ h' D = none ∧ H' D = some (.dK accV) ∧ RpK G H' acc accV ∧ m = items.length - i ∧ i ≤ items.length ∧ dDComp g tt tk tv chk (items.drop i) acc (wD σ vs) h' (fun ys h2 => ∀ p, h2 p = none → Q (.v (.ref p)) (put h2 p (.dk ys))),
    ⟨items.length, h1, [], [], Go.hid g1.rh hD, hD1, upd_same, .nil, by simp, Nat.zero_le _, by simpa [dcm] using q1⟩, ?_⟩
  rintro i m H' ⟨h', acc, accV, g12, nD, eD, ra, rfl, hi, ql⟩
  by_cases hlt : i < items.length
  · rw [List.drop_eq_getElem_cons hlt] at ql
    obtain ⟨hc, ql⟩ := ql
    refine .inr ⟨jo.go i H' h' g12.st g12.rh hc hlt, fun H2 => ∃ h2 acc2 accV2, Go G H1 h1 H2 h2 ∧ h2 D = none ∧ H2 D = some (.dK accV2) ∧ RpK G H2 acc2 accV2 ∧ dDComp g tt tk tv chk (items.drop (i + 1)) acc2 (wD σ vs) h2 (fun ys h2 => ∀ p, h2 p = none → Q (.v (.ref p)) (put h2 p (.dk ys))),
      fun H2 ⟨h2, acc2, accV2, a1, a2, a3, a4, a5⟩ => ⟨items.length - (i + 1), by omega, h2, acc2, accV2, a1, a2, a3, a4, rfl, hlt, a5⟩, fun x H3 y => ?_⟩
    obtain ⟨d, ed, rd, g3⟩ := jo.yld i H' h' x H3 g12.st g12.rh hc hlt y
    rw [List.getElem?_eq_getElem hlt] at ed
    cases ed
    have g03 : Go G H h H3 h' := g1.trans (g12.trans g3)
    have rw3 : RelS G H3 (wD σ vs) (wipe σV vs) := relS_wipe (r0.s.stb g03.st) vs
    refine gw.run _ x (wD σ vs) h' _ H3 _ _ rd rw3 ql fun σ4 σV4 q4 r4 w4 => ⟨w4.trans (wipe_wipe σV vs), ?_⟩
    refine ⟨σ4, h', _, ⟨r0.go.trans g03, r4⟩, q4, fun b h5 H5 q5 g5 => ?_⟩
    have g25 : Go G H' h' H5 h5 := g3.trans g5
    have fD5 := g25.fr D _ eD nD
    cases b with
    | false =>
      refine iteF ⟨h5, acc, accV, g12.trans g25, fD5.2, fD5.1, ra.stb g25.st, (by simpa [dIte] using q5)⟩
    | true =>
      refine iteT ⟨σ4, h5, _, ⟨r0.go.trans (g03.trans g5), r4.stb g5.st⟩, (by simpa [dIte] using q5), fun yd h6 yv H6 q6 g6 r6 => ?_⟩
      have g26 := g25.trans g6
      refine ⟨σ4, h6, _, ⟨r0.go.trans (g1.trans (g12.trans g26)), (r4.stb g5.st).stb g6.st⟩, q6, fun zd h7 zv H7 q7 g7 r7 => ?_⟩
      obtain ⟨key, ek, hz, q77⟩ := mO_ex q7
      have ey := keyD_ok ek
      subst ey
      cases r6
      have g27 := g26.trans g7
      have fD7 := g27.fr D _ eD nD
      refine ⟨accV, key, rfl, fD7.1, by rw [← ra.len]; exact hz, h7, putD acc key zd, putK accV key zv, go_hs (g12.trans g27) hD fD7.2 fD7.1 trivial, fD7.2, upd_same, ?_, q77⟩
      exact (putD_rel (ra.stb g27.st) r7).stb (Stb.set fD7.1 trivial)
  · rw [List.drop_eq_nil_of_le (by omega)] at ql
    obtain ⟨hc, ql⟩ := ql
    have g02 := g1.trans g12
    refine .inl ⟨jo.stop i H' h' g12.st g12.rh hc (by omega), o _ _ _ H' (ql D nD) ⟨g02.st, fun a o' e' n => ?_, fun b o' e' => ?_⟩ (.v _)⟩
    · have z : a ≠ D := ne_of_none (g1.fr a o' e' n).1 hD
      exact ⟨(g02.fr a o' e' n).1, by rw [put_ne z]; exact (g02.fr a o' e' n).2⟩
    · by_cases z : b = D
      · subst z
        rw [put_same] at e'; cases e'
        exact ⟨_, eD, accV, rfl, ra⟩
      · rw [put_ne z] at e'
        exact g02.rh b o' e'
theorem de_dc {kx vx tg iter : Expr} {ifs : List Expr} {scope : Scope} {own : List (Str × Nat)} {pos : Pos} {wi : ID} {gV : TG} {g : GD} {tt : TD} {tk tv : ED} (rg : Rg X B E) (hN : X.N.Nodup) (hi : DI X B tg iter wi) (ok : BlkOk X.N X.env.scope scope own)
    (hg : ∀ (s : Shared) (H : Hp) (C : Addr) (cl : List (Str × Addr)) (fp : List Addr), PG (X.blk s H scope (compEnvC scope cl C X.env) fp) tg gV) (gw : GW X.gv gV g (own.map (·.2)))
    (ht : ∀ (s : Shared) (H : Hp) (C : Addr) (cl : List (Str × Addr)) (fp : List Addr), DTs (X.blk s H scope (compEnvC scope cl C X.env) fp) B ifs tt)
    (hk : ∀ (s : Shared) (H : Hp) (C : Addr) (cl : List (Str × Addr)) (fp : List Addr), DE (X.blk s H scope (compEnvC scope cl C X.env) fp) B kx tk)
    (he : ∀ (s : Shared) (H : Hp) (C : Addr) (cl : List (Str × Addr)) (fp : List Addr), DE (X.blk s H scope (compEnvC scope cl C X.env) fp) B vx tv) (hs : ∀ x, foldedSetIterable iter X.env x = pure x := by intro _; rfl) :
    DE X B (.DictComp kx vx [⟨tg, iter, ifs, 0⟩] scope pos) (dDc wi g tt tk tv (own.map (·.2))) :=
  PE.imp (pe_dc (tt := lT X.gv B tt) (tk := lE X.gv B tk) (tv := lE X.gv B tv) rg.calm hN hi ok hg ht hk he hs) fun σV H QV q => dc_of gw q
end
def rds10 := (And.intro @dDc.eq_1 trivial)
end DL
namespace DL
open PySem L2
theorem canLay_ints : ∀ ns : List Int, PyData.canLayAll0 (ns.map .int) = true
  | [] => by simp [PyData.canLayAll0]
  | n :: r => by simp [PyData.canLayAll0, PyData.canLay0, canLay_ints r]
theorem depth_ints : ∀ ns : List Int, PyData.depthAll (ns.map .int) = 0
  | [] => by simp [PyData.depthAll]
  | n :: r => by simp [PyData.depthAll, PyData.depth, depth_ints r]
theorem shaped_ints (ns : List Int) : SeqAt.shaped (.list (ns.map .int)) = true := by
  unfold SeqAt.shaped
  rw [Bool.and_eq_true, decide_eq_true_eq]
  refine ⟨?_, ?_⟩
  · simp only [PyData.canLay0]
    exact canLay_ints ns
  · simp only [PyData.depth]
    rw [depth_ints]
    decide
theorem dpAll_ints {K : PySem.W.Frag} {H : Hp} : ∀ ns : List Int, DpAll K H (ns.map V.int) (ns.map .int)
  | [] => .nil
  | n :: r => .cons (.int n) (dpAll_ints r)
section
variable {X : Cx} {B : Bs}
def pEqA : R2d := fun x y h Q => match x, y with
  | .v (.ref a), .v (.ref b) => mO (rdL h a) fun xs => mO (intsOf xs) fun ns => mO (rdL h b) fun ys => mO (intsOf ys) fun ms => Q (.v (.bl (decide (ns = ms)))) h
  | x, y => pEq x y h Q
theorem do_eqA {k : Nat} (hr : Room k X.A) : DOp X (compareOp .Eq) pEqA := fun pins s σ H x y v u Q I rx ry hh => by
  obtain ⟨dx, dy, h, Qd, px, py, rh, q, o⟩ := hh
  unfold pEqA at q
  split at q
  · obtain ⟨xs, e1, q⟩ := mO_ex q
    obtain ⟨ns, e2, q⟩ := mO_ex q
    obtain ⟨ys, e3, q⟩ := mO_ex q
    obtain ⟨ms, e4, q⟩ := mO_ex q
    cases px; cases py
    obtain ⟨vs, sv, rv⟩ := rdL_ok rh e1
    obtain ⟨ws, sw, rw'⟩ := rdL_ok rh e3
    rw [intsOf_ok e2] at rv
    rw [intsOf_ok e4] at rw'
    have ev := rps_ints rv
    have ew := rps_ints rw'
    subst ev ew
    have eq : PyData.eqv (.list (ns.map .int)) (.list (ms.map .int)) = decide (ns = ms) := PySem.W.Datum.eqv (α := List Int) ns ms
    refine op_eqD (by have := hr.units; omega) pins s σ H _ _ v u Q I rx ry ⟨_, _, .lst sv (dpAll_ints ns), .lst sw (dpAll_ints ms), shaped_ints ns, shaped_ints ms, ?_⟩
    rw [eq]
    exact o _ h _ H q (Go.refl rh) (.v _)
  · exact do_eq (u50 hr) pins s σ H x y v u Q I rx ry ⟨_, _, h, Qd, px, py, rh, q, o⟩
variable {i j : Int} {a b : Str} {xs : List D} {y : D} {h : Hd} {Q : KD} {p q : Addr}
theorem pEqA_i : pEqA (.v (.int i)) (.v (.int j)) h Q = Q (.v (.bl (decide (i = j)))) h := rfl
theorem pEqA_s : pEqA (.v (.str a)) (.v (.str b)) h Q = Q (.v (.bl (decide (a = b)))) h := rfl
theorem pEqA_t : pEqA (.t xs) y h Q = ((plD 50 (.t xs) && plD 50 y) = true ∧ Q (.v (.bl (eqD (.t xs) y))) h) := pEq_t
theorem pEqA_non : pEqA (.v .non) y h Q = ((plD 50 (.v .non) && plD 50 y) = true ∧ Q (.v (.bl (eqD (.v .non) y))) h) := pEq_non
theorem pEqA_bl {k : Bool} : pEqA (.v (.bl k)) y h Q = ((plD 50 (.v (.bl k)) && plD 50 y) = true ∧ Q (.v (.bl (eqD (.v (.bl k)) y))) h) := pEq_bl
def eqO (o u : Option O) (h : Hd) (Q : KD) : Prop := match o, u with
  | some (.lst xs), some (.lst ys) => mO (intsOf xs) fun ns => mO (intsOf ys) fun ms => Q (.v (.bl (decide (ns = ms)))) h
  | _, _ => False
theorem eqO_l {xs ys : List D} : eqO (some (.lst xs)) (some (.lst ys)) h Q = mO (intsOf xs) fun ns => mO (intsOf ys) fun ms => Q (.v (.bl (decide (ns = ms)))) h := rfl
theorem rdL_some {h : Hd} {a : Addr} {xs : List D} (e : rdL h a = some xs) : h a = some (.lst xs) := by
  unfold rdL at e
  split at e
  · rename_i q; cases e; exact q
  · cases e
theorem pEqA_r : pEqA (.v (.ref p)) (.v (.ref q)) h Q = eqO (h p) (h q) h Q := by
  show (mO (rdL h p) fun xs => mO (intsOf xs) fun ns => mO (rdL h q) fun ys => mO (intsOf ys) fun ms => Q (.v (.bl (decide (ns = ms)))) h) = _
  refine propext ⟨fun z => ?_, fun z => ?_⟩
  · obtain ⟨xs, e1, z⟩ := mO_ex z
    obtain ⟨ns, e2, z⟩ := mO_ex z
    obtain ⟨ys, e3, z⟩ := mO_ex z
    obtain ⟨ms, e4, z⟩ := mO_ex z
    rw [rdL_some e1, rdL_some e3, eqO_l, e2, e4]
    exact z
  · unfold eqO at z
    split at z
    · rename_i xs ys e1 e2
      obtain ⟨ns, e3, z⟩ := mO_ex z
      obtain ⟨ms, e4, z⟩ := mO_ex z
      rw [rdL_l e1]
      show mO (intsOf xs) fun ns => mO (rdL h q) fun ys => mO (intsOf ys) fun ms => Q (.v (.bl (decide (ns = ms)))) h
      rw [e3]
      show mO (rdL h q) fun ys => mO (intsOf ys) fun ms => Q (.v (.bl (decide (ns = ms)))) h
      rw [rdL_l e2]
      show mO (intsOf ys) fun ms => Q (.v (.bl (decide (ns = ms)))) h
      rw [e4]
      exact z
    · exact z.elim
def pIsA : R2d := fun x y h Q => match y with
  | .v (.bl k) => mBl x fun j => Q (.v (.bl (decide (j = k)))) h
  | _ => pIs x y h Q
def pIsNotA : R2d := fun x y h Q => match y with
  | .v (.bl k) => mBl x fun j => Q (.v (.bl (!decide (j = k)))) h
  | _ => pIsNot x y h Q
theorem mBl_ex {d : D} {k : Bool → Prop} (q : mBl d k) : ∃ b, d = .v (.bl b) ∧ k b := by
  unfold mBl at q
  split at q
  · exact ⟨_, rfl, q⟩
  · exact q.elim
theorem do_isA : DOp X (compareOp .Is) pIsA := fun pins s σ H x y v u Q I rx ry hh => by
  obtain ⟨dx, dy, h, Qd, px, py, rh, q, o⟩ := hh
  unfold pIsA at q
  split at q
  · obtain ⟨j, rfl, q⟩ := mBl_ex q
    cases px; cases py
    exact op_is_bl pins s σ H _ _ v u Q I rx ry ⟨j, _, rfl, rfl, o _ h _ H q (Go.refl rh) (.v _)⟩
  · exact do_is pins s σ H x y v u Q I rx ry ⟨_, _, h, Qd, px, py, rh, q, o⟩
theorem do_isnotA : DOp X (compareOp .IsNot) pIsNotA := fun pins s σ H x y v u Q I rx ry hh => by
  obtain ⟨dx, dy, h, Qd, px, py, rh, q, o⟩ := hh
  unfold pIsNotA at q
  split at q
  · obtain ⟨j, rfl, q⟩ := mBl_ex q
    cases px; cases py
    exact op_isnot_bl pins s σ H _ _ v u Q I rx ry ⟨j, _, rfl, rfl, o _ h _ H q (Go.refl rh) (.v _)⟩
  · exact do_isnot pins s σ H x y v u Q I rx ry ⟨_, _, h, Qd, px, py, rh, q, o⟩
theorem pIsA_n {x : D} : pIsA x (.v .non) h Q = Q (.v (.bl (isN x))) h := rfl
theorem pIsNotA_n {x : D} : pIsNotA x (.v .non) h Q = Q (.v (.bl (!isN x))) h := rfl
theorem pIsA_b {j k : Bool} : pIsA (.v (.bl j)) (.v (.bl k)) h Q = Q (.v (.bl (decide (j = k)))) h := rfl
theorem pIsNotA_b {j k : Bool} : pIsNotA (.v (.bl j)) (.v (.bl k)) h Q = Q (.v (.bl (!decide (j = k)))) h := rfl
def rSD : List V → Hp → L2.VK → Prop := fun xs H Q => ∃ (a : Addr) (kvs : List (Key × V)) (ks : List Int), xs = [.ref a] ∧ Rd H a (.dK kvs) ∧ kvs.map Prod.fst = ks.map (Sum.inl : Int → Key) ∧ ks.length ≤ 1000 ∧ ∀ (ys : List Int) (p : Addr), ys.Perm ks → ys.Pairwise (· ≤ ·) → H p = none → Q (.ref p) (upd H p (.lst (ys.map V.int)))
theorem cr_sortedD {X : Cx} (hc : X.calm = true) : CallR X (.builtin "sorted") rSD := by
  rintro pins s σ H xs us Q I r ⟨a, kvs, ks, rfl, hd, hks, hle, q⟩
  obtain ⟨u, rfl, rx⟩ := vals1 r
  cases rx
  obtain ⟨_, lo, vs, rel, dd⟩ := dk_rd I.hok hd
  obtain ⟨ep, hat⟩ := dd.dictAt
  have kv : vs.map Prod.fst = ks.map Sum.inl := by rw [← hks]; exact rel.keys.symm
  have len : vs.length = ks.length := by simpa using congrArg List.length kv
  have small : ∀ n, n ≤ 1000 → n ≤ sizeLine := fun n hn => Nat.le_trans hn (by decide)
  refine Calls.call_function_entry PyProof.Rows.kind_sorted PyProof.Rows.plain_sorted PyProof.Rows.entry_sorted (PyProof.Rows.args_sorted1 _) (wpAny_bind (m := checkCount "sorted" 1 1 _) (wpAny_pure (wpAny_bind (PySem.W.kdu_collect (A := X.A.in1) (PySem.W.kdl_dict (knd := mixKind X.prog X.w) (kvs := vs) (ep := ep) lo) (I.ok.hd hc) hat (small _ (by omega)) ?_))))
  intro h1 tk acc hk got
  have al : acc.toList.length = ks.length := by rw [← len, ← got.1, Array.length_toList]
  have each : PyProof.Rows.IntsAre acc.toList ks := by
    refine ints_each al fun j v e => ?_
    rw [Array.getElem?_toList] at e
    obtain ⟨k, x, e1, e2⟩ := got.2 j v e
    have e3 : (ks.map (Sum.inl : Int → Key))[j]? = some k := by rw [← kv, List.getElem?_map, e1]; rfl
    obtain ⟨y, ey, ek⟩ := Option.map_eq_some_iff.mp ((List.getElem?_map (f := (Sum.inl : Int → Key)) (l := ks) (i := j)).symm.trans e3)
    rcases keyIs_shape (k := k) (v := v) e2 with ⟨i, t, z, ev⟩ | ⟨_, _, z, _⟩
    · rw [z] at ek
      cases ek
      exact ⟨y, t, ey, ev⟩
    · rw [z] at ek
      cases ek
  have J : Inv X pins σ H { s with heap := h1, toks := tk } := I.kept hk
  have there : (h1.push (PyProof.Rows.seqObj "list" acc.toList.toArray 0)).get? h1.objs.size = some (PyProof.Rows.seqObj "list" acc.toList.toArray 0) := Heap.get?_push_size _ rfl
  refine wpAny_bind (wpAny_newList ?_ (small _ (by omega)))
  refine wpAny_bind (wpAny_holding (wpAny_call_entry (s := { s with heap := h1.push (PyProof.Rows.seqObj "list" acc.toList.toArray 0), toks := tk }) PyProof.Rows.slot_list_sort ⟨_, there, rfl⟩ PyProof.Rows.entry_list_sort ?_ (PyProof.Rows.args_list_sort _)))
  refine SrtO.list_sort_ord SrtO.swo_int there (small _ (by omega)) (fun h2 => SrtO.ints_sortable each h2) fun out o1 o2 => ⟨_, rfl, ?_⟩
  obtain ⟨k1, k2, k3⟩ := SrtO.ints_out each o1 o2
  obtain ⟨e', he'⟩ := PyProof.Rows.sortedHeap_at (vs := acc.toList) (out := out.toArray) there
  have hlen : ((out.map SrtO.iv).map V.int).length ≤ sizeLine := by
    have := k2.length_eq
    exact small _ (by rw [List.length_map]; omega)
  refine wpAny_pure ⟨_, rfl, .ref h1.objs.size, upd H h1.objs.size (.lst ((out.map SrtO.iv).map V.int)), J.laid (t' := tk) (fun b u e => ?_) (Nat.le_refl _) ⟨hlen, out, e', vals_of_ints k1, he'⟩, rfl, q _ _ k2 k3 (J.hok.fresh (Nat.le_refl _))⟩
  have hb := Heap.lt_size e
  rw [PyProof.Rows.sortedHeap_old (Nat.ne_of_lt hb) (Nat.lt_of_lt_of_le hb (by show _ ≤ (h1.objs.push _).size; rw [Array.size_push]; exact Nat.le_succ _))]
  exact Heap.get?_push_of_some _ e
def keysI : List (Key × D) → Option (List Int)
  | [] => some []
  | (.inl i, _) :: r => match keysI r with
    | some ks => some (i :: ks)
    | none => none
  | (.inr _, _) :: _ => none
theorem keysI_ok : ∀ {kvs : List (Key × D)} {ks : List Int}, keysI kvs = some ks → kvs.map (·.1) = ks.map Sum.inl
  | [], ks, e => by cases e; rfl
  | (.inl i, d) :: r, ks, e => by
    unfold keysI at e
    split at e
    · rename_i q
      cases e
      rw [List.map_cons, List.map_cons, keysI_ok q]
    · cases e
  | (.inr _, _) :: _, _, e => by cases e
theorem rpk_keys {κ : Type} {G : Gv} {H : Hp} : ∀ {kvs : List (κ × D)} {vs : List (κ × V)}, RpK G H kvs vs → kvs.map (·.1) = vs.map (·.1)
  | _, _, .nil => rfl
  | _, _, .cons h t => by rw [List.map_cons, List.map_cons, h.1, rpk_keys t]
def sortOA (o : Option O) (h : Hd) (Q : KD) : Prop := match o with
  | some (.lst xs) => sortX xs h Q
  | some (.dk kvs) => mO (keysI kvs) fun ks => ks.length ≤ 1000 ∧ srt ks (fun ns' => al h (fun p => Q (.v (.ref p)) (put h p (.lst (intsD ns')))) .mk) .mk
  | _ => False
theorem sortOA_l {xs : List D} : sortOA (some (.lst xs)) h Q = sortX xs h Q := rfl
theorem sortOA_d {kvs : List (Key × D)} : sortOA (some (.dk kvs)) h Q = mO (keysI kvs) fun ks => ks.length ≤ 1000 ∧ srt ks (fun ns' => al h (fun p => Q (.v (.ref p)) (put h p (.lst (intsD ns')))) .mk) .mk := rfl
def cSortedA : CD := fun ds h Q => match ds with
  | [.v (.ref a)] => sortOA (h a) h Q
  | _ => False
theorem cSortedA_r {a : Addr} : cSortedA [.v (.ref a)] h Q = sortOA (h a) h Q := rfl
theorem ca_sortedA (hc : X.calm = true) : DCa X (.builtin "sorted") cSortedA := dca_of (cr_sortedI.or (cr_sortedD hc)) fun xs H Q ⟨ds, h, Qd, rp, rh, q, o⟩ => by
  unfold cSortedA at q
  split at q
  · rename_i a
    cases rp with
    | cons r1 r2 =>
      cases r2; cases r1
      unfold sortOA at q
      split at q
      · rename_i xs e
        obtain ⟨ns, e2, q⟩ := mO_ex q
        obtain ⟨vs, hv, r⟩ := lst_ok rh e
        rw [intsOf_ok e2] at r
        have := rps_ints r
        subst this
        exact .inl ⟨_, ns, rfl, SqL.of hv, fun ns' p h1 h2 hp => o _ _ _ _ (q ns' h1 h2 p (rh.free hp)) (Go.new rh hp ⟨_, rfl, rps_ints'⟩) (.v _)⟩
      · rename_i kvs e
        obtain ⟨ks, e2, hl, q⟩ := mO_ex q
        obtain ⟨vs, hv, r⟩ := dk_ok rh e
        exact .inr ⟨_, vs, ks, rfl, .inl hv, by rw [← rpk_keys r]; exact keysI_ok e2, hl, fun ns' p h1 h2 hp => o _ _ _ _ (q ns' h1 h2 p (rh.free hp)) (Go.new rh hp ⟨_, rfl, rps_ints'⟩) (.v _)⟩
      · exact q.elim
  · exact q.elim
end
def rds11 := (And.intro @pEqA_i (And.intro @pEqA_s (And.intro @pEqA_t (And.intro @pEqA_non (And.intro @pEqA_bl (And.intro @pEqA_r (And.intro @eqO_l (And.intro @pIsA_n (And.intro @pIsNotA_n (And.intro @pIsA_b (And.intro @pIsNotA_b (And.intro @sortOA_l (And.intro @sortOA_d (And.intro @cSortedA_r trivial))))))))))))))
end DL
namespace DL
open PySem L2
section
variable {X : Cx} {B : Bs}
variable {i : Int} {xs : List D} {h : Hd} {Q : KD} {p : Addr}
end
end DL
namespace DL
open PySem L2
def poolO (q : Addr) (s : Int × Int × Int) : O := .lst [.v (.ref q), .v (.int s.1), .v (.int s.2.1), .v (.int s.2.2)]
structure PoolAt (h : Hd) (p q : Addr) (cells : List Int) : Prop where
  st : ∃ s, h p = some (poolO q s)
  cl : h q = some (.lst (intsD cells))
  ne : q ≠ p
  ln : cells.length ≤ 63
def sp_law_draw : SpD := fun ds h Q _ => ds.length = 2 ∧ ∃ (p q : Addr) (cells : List Int) (many : Int), ds = [.v (.ref p), .v (.int many)] ∧ PoolAt h p q cells ∧ 0 < many ∧ many.natAbs.log2 < 9000 ∧
  ∀ (k : Int) (s : Int × Int × Int), 0 ≤ k → k < many → Q (.v (.int k)) (put h p (poolO q s))
def rd_law_draw (E : ER) : SD :=
  dSeq (dAsg (d2 pAdd (d2 pIt (dVar 0) (dC (.v (.int 3)))) (dC (.v (.int 1)))) (subG (dVar 0) (dC (.v (.int 3))) setK))
  (dSeq (dIfS (dTest (d2 pGt (d2 pIt (dVar 0) (dC (.v (.int 2)))) (dC (.v (.int 0))))) (dSeq (dAsg (d2 pMod (dCB cInt (dCons (d2 pIt (dVar 0) (dC (.v (.int 2)))) (dNil))) (dVar 1)) (nG 5))
  (dSeq (dAsg (d2 pFdv (d2 pIt (dVar 0) (dC (.v (.int 2)))) (dVar 1)) (subG (dVar 0) (dC (.v (.int 2))) setK))
  (dRet (dVar 5)))) (dNext))
  (dSeq (dAsg (dC (.v (.int 0))) (nG 2))
  (dSeq (dIfS (dTest (d2 pGt (dCB cLen (dCons (d2 pIt (dVar 0) (dC (.v (.int 0)))) (dNil))) (dC (.v (.int 0))))) (dSeq (dAsg (d2 pIt (d2 pIt (dVar 0) (dC (.v (.int 0)))) (d2 pMod (dCB cInt (dCons (d2 pIt (dVar 0) (dC (.v (.int 1)))) (dNil))) (dCB cLen (dCons (d2 pIt (dVar 0) (dC (.v (.int 0)))) (dNil))))) (nG 2))
  (dSeq (dAsg (d2 pAdd (d2 pIt (dVar 0) (dC (.v (.int 1)))) (dC (.v (.int 1)))) (subG (dVar 0) (dC (.v (.int 1))) setK))
  (dIfS (dAnd (dTest (d2 pLe (d2 pIt (dVar 0) (dC (.v (.int 1)))) (dCB cLen (dCons (d2 pIt (dVar 0) (dC (.v (.int 0)))) (dNil))))) (dTest (d2 pGe (dVar 2) (d2 pPow (dC (.v (.int 10))) (dC (.v (.int 18))))))) (dSeq (dAsg (d2 pFdv (dVar 2) (dVar 1)) (subG (dVar 0) (dC (.v (.int 2))) setK))
  (dRet (d2 pMod (dCB cInt (dCons (dVar 2) (dNil))) (dVar 1)))) (dNext)))) (dNext))
  (dSeq (dAsg (d2 pMod (dCB cInt (dCons (d2 pAdd (d2 pAdd (d2 pMul (dVar 2) (dC (.v (.int 48271)))) (d2 pMul (d2 pIt (dVar 0) (dC (.v (.int 3)))) (dC (.v (.int 69621))))) (dC (.v (.int 48271)))) (dNil))) (dC (.v (.int 2147483647)))) (nG 3))
  (dSeq (dAsg (d2 pMod (dCB cInt (dCons (d2 pAdd (d2 pAdd (d2 pMul (dVar 3) (dVar 3)) (d2 pFdv (dVar 2) (dC (.v (.int 97))))) (d2 pIt (dVar 0) (dC (.v (.int 3))))) (dNil))) (dC (.v (.int 2147483629)))) (nG 4))
  (dRet (d2 pMod (d2 pFdv (d2 pMod (dCB cInt (dCons (d2 pAdd (d2 pMul (dVar 4) (dC (.v (.int 16807)))) (dVar 3)) (dNil))) (dC (.v (.int 2147483587)))) (dC (.v (.int 11)))) (dVar 1))))))))
abbrev N_law_draw : List Str := ["pool", "many", "cell", "one", "two", "found"]
theorem len_intsD (ns : List Int) : (intsD ns).length = ns.length := List.length_map _
theorem atI_ints {ns : List Int} {i : Int} (h0 : 0 ≤ i) (h1 : i < (ns.length : Int)) : ∃ z : Int, atI (intsD ns) i = some (.v (.int z)) := by
  obtain ⟨j, rfl⟩ := Int.eq_ofNat_of_zero_le h0
  have hj : j < ns.length := by omega
  exact ⟨ns[j], atI_nat (by unfold intsD; rw [List.getElem?_map, List.getElem?_eq_getElem hj]; rfl)⟩
theorem mulOk_r {i : Int} (j : Int) (h : -(2 ^ 64) < j ∧ j < 2 ^ 64) : mulOk i j := .inl (.inr h)
theorem mulOk_l {j : Int} (i : Int) (h : -(2 ^ 64) < i ∧ i < 2 ^ 64) : mulOk i j := .inl (.inl h)
theorem divOk_c (j : Int) (h : 0 < j) (h' : j.natAbs < 2 ^ 64) : divOk j := ⟨h, Nat.lt_trans ((Nat.log2_lt (by omega)).mpr h') (by decide)⟩
theorem ok_law_draw : ∀ ds h Q E, sp_law_draw ds h Q E → rd_law_draw (fun x _ h' => E x h') (fin Q) (startD N_law_draw ds) h := by
  rintro ds h Q E ⟨_, p, q, cells, many, rfl, P, h1, h2, ret⟩
  obtain ⟨⟨⟨a, b, c⟩, hp⟩, hq, hn, hl⟩ := P
  have hm : divOk many := ⟨h1, h2⟩
  have em : many ≠ 0 := by omega
  show rd_law_draw _ _ [some (.v (.ref p)), some (.v (.int many)), none, none, none, none] h
  unfold rd_law_draw
  try simp -dsimp -implicitDefEqProofs only [↓rds1, ↓rds2, ↓rds3, ↓rds4, ↓rds5, ↓rds6, ↓rds7, ↓rds8, ↓rds9, ↓rds10, ↓rds11, List.set_cons_zero, List.set_cons_succ, ne_eq, not_false_eq_true, decide_eq_true_eq, Bool.or_true, Bool.or_false, Bool.true_or, Bool.false_or, Bool.and_true, Bool.true_and, Bool.and_false, Bool.false_and, Bool.not_true, Bool.not_false, reduceCtorEq, beq_self_eq_true, true_and, and_true, hp, poolO]
  refine dIte_by (fun hb => ?_) fun hb => ?_
  · try simp -dsimp -implicitDefEqProofs only [↓rds1, ↓rds2, ↓rds3, ↓rds4, ↓rds5, ↓rds6, ↓rds7, ↓rds8, ↓rds9, ↓rds10, ↓rds11, List.set_cons_zero, List.set_cons_succ, ne_eq, not_false_eq_true, decide_eq_true_eq, Bool.or_true, Bool.or_false, Bool.true_or, Bool.false_or, Bool.and_true, Bool.true_and, Bool.and_false, Bool.false_and, Bool.not_true, Bool.not_false, reduceCtorEq, beq_self_eq_true, true_and, and_true, hp, poolO]
    refine ⟨h1, hm, finR ?_⟩
    exact ret _ (a, b / many, c + 1) (Int.emod_nonneg _ em) (Int.emod_lt_of_pos _ h1)
  have tail : ∀ (s : Int × Int × Int) (cell : Int) (D : EndsD) (h' : Hd), D.rt = (fin Q).rt → h' = put h p (poolO q s) → (dSeq (dAsg (d2 pMod (dCB cInt (dCons (d2 pAdd (d2 pAdd (d2 pMul (dVar 2) (dC (.v (.int 48271)))) (d2 pMul (d2 pIt (dVar 0) (dC (.v (.int 3)))) (dC (.v (.int 69621))))) (dC (.v (.int 48271)))) (dNil))) (dC (.v (.int 2147483647)))) (nG 3))
    (dSeq (dAsg (d2 pMod (dCB cInt (dCons (d2 pAdd (d2 pAdd (d2 pMul (dVar 3) (dVar 3)) (d2 pFdv (dVar 2) (dC (.v (.int 97))))) (d2 pIt (dVar 0) (dC (.v (.int 3))))) (dNil))) (dC (.v (.int 2147483629)))) (nG 4))
    (dRet (d2 pMod (d2 pFdv (d2 pMod (dCB cInt (dCons (d2 pAdd (d2 pMul (dVar 4) (dC (.v (.int 16807)))) (dVar 3)) (dNil))) (dC (.v (.int 2147483587)))) (dC (.v (.int 11)))) (dVar 1))))) D [some (.v (.ref p)), some (.v (.int many)), some (.v (.int cell)), none, none, none] h' := by
    rintro s cell D h' hD rfl
    try simp -dsimp -implicitDefEqProofs only [↓rds1, ↓rds2, ↓rds3, ↓rds4, ↓rds5, ↓rds6, ↓rds7, ↓rds8, ↓rds9, ↓rds10, ↓rds11, List.set_cons_zero, List.set_cons_succ, ne_eq, not_false_eq_true, decide_eq_true_eq, Bool.or_true, Bool.or_false, Bool.true_or, Bool.false_or, Bool.and_true, Bool.true_and, Bool.and_false, Bool.false_and, Bool.not_true, Bool.not_false, reduceCtorEq, beq_self_eq_true, true_and, and_true, poolO]
    refine ⟨mulOk_r _ (by decide), mulOk_r _ (by decide), by decide, ?_⟩
    have b1 := Int.emod_nonneg (cell * 48271 + s.2.2 * 69621 + 48271) (show (2147483647 : Int) ≠ 0 by decide)
    have b2 := Int.emod_lt_of_pos (cell * 48271 + s.2.2 * 69621 + 48271) (show (0 : Int) < 2147483647 by decide)
    refine ⟨mulOk_r _ (by omega), divOk_c _ (by decide) (by decide), by decide, mulOk_r _ (by decide), by decide, divOk_c _ (by decide) (by decide), h1, ?_⟩
    rw [hD]
    exact finR (ret _ s (Int.emod_nonneg _ em) (Int.emod_lt_of_pos _ h1))
  try simp -dsimp -implicitDefEqProofs only [↓rds1, ↓rds2, ↓rds3, ↓rds4, ↓rds5, ↓rds6, ↓rds7, ↓rds8, ↓rds9, ↓rds10, ↓rds11, List.set_cons_zero, List.set_cons_succ, ne_eq, not_false_eq_true, decide_eq_true_eq, Bool.or_true, Bool.or_false, Bool.true_or, Bool.false_or, Bool.and_true, Bool.true_and, Bool.and_false, Bool.false_and, Bool.not_true, Bool.not_false, reduceCtorEq, beq_self_eq_true, true_and, and_true, hb, hq, hn, len_intsD]
  refine dIte_by (fun hc => ?_) fun hc => ?_
  · try simp -dsimp -implicitDefEqProofs only [↓rds1, ↓rds2, ↓rds3, ↓rds4, ↓rds5, ↓rds6, ↓rds7, ↓rds8, ↓rds9, ↓rds10, ↓rds11, List.set_cons_zero, List.set_cons_succ, ne_eq, not_false_eq_true, decide_eq_true_eq, Bool.or_true, Bool.or_false, Bool.true_or, Bool.false_or, Bool.and_true, Bool.true_and, Bool.and_false, Bool.false_and, Bool.not_true, Bool.not_false, reduceCtorEq, beq_self_eq_true, true_and, and_true, hq, hn, len_intsD]
    refine ⟨hc, ?_⟩
    obtain ⟨z, ez⟩ := atI_ints (ns := cells) (i := a % (cells.length : Int)) (Int.emod_nonneg _ (by omega)) (Int.emod_lt_of_pos _ hc)
    try simp -dsimp -implicitDefEqProofs only [↓rds1, ↓rds2, ↓rds3, ↓rds4, ↓rds5, ↓rds6, ↓rds7, ↓rds8, ↓rds9, ↓rds10, ↓rds11, List.set_cons_zero, List.set_cons_succ, ne_eq, not_false_eq_true, decide_eq_true_eq, Bool.or_true, Bool.or_false, Bool.true_or, Bool.false_or, Bool.and_true, Bool.true_and, Bool.and_false, Bool.false_and, Bool.not_true, Bool.not_false, reduceCtorEq, beq_self_eq_true, true_and, and_true, hq, hn, len_intsD, ez]
    refine dIte_by (fun hd => ?_) fun hd => ?_
    · try simp -dsimp -implicitDefEqProofs only [↓rds1, ↓rds2, ↓rds3, ↓rds4, ↓rds5, ↓rds6, ↓rds7, ↓rds8, ↓rds9, ↓rds10, ↓rds11, List.set_cons_zero, List.set_cons_succ, ne_eq, not_false_eq_true, decide_eq_true_eq, Bool.or_true, Bool.or_false, Bool.true_or, Bool.false_or, Bool.and_true, Bool.true_and, Bool.and_false, Bool.false_and, Bool.not_true, Bool.not_false, reduceCtorEq, beq_self_eq_true, true_and, and_true, hq, hn, len_intsD, ez]
      refine ⟨⟨by decide, by decide, by decide⟩, ?_⟩
      refine dIte_by (fun he => ?_) fun he => ?_
      · try simp -dsimp -implicitDefEqProofs only [↓rds1, ↓rds2, ↓rds3, ↓rds4, ↓rds5, ↓rds6, ↓rds7, ↓rds8, ↓rds9, ↓rds10, ↓rds11, List.set_cons_zero, List.set_cons_succ, ne_eq, not_false_eq_true, decide_eq_true_eq, Bool.or_true, Bool.or_false, Bool.true_or, Bool.false_or, Bool.and_true, Bool.true_and, Bool.and_false, Bool.false_and, Bool.not_true, Bool.not_false, reduceCtorEq, beq_self_eq_true, true_and, and_true, hq, hn]
        refine ⟨hm, h1, finR ?_⟩
        exact ret _ (a + 1, z / many, c + 1) (Int.emod_nonneg _ em) (Int.emod_lt_of_pos _ h1)
      · exact tail (a + 1, b, c + 1) z _ _ rfl rfl
    · exact tail (a + 1, b, c + 1) z _ _ rfl rfl
  · exact tail (a, b, c + 1) 0 _ _ rfl rfl
def sp_law_pool : SpD := fun ds h Q _ => ds.length = 1 ∧ ∃ ns : List Int, ds = [.k (intsD ns)] ∧ ns.length ≤ 63 ∧ ∀ p q : Addr, h q = none → h p = none → q ≠ p → Q (.v (.ref p)) (put (put h q (.lst (intsD ns))) p (poolO q (0, 0, 0)))
def rd_law_pool (E : ER) : SD :=
  dRet (dLst (dCons (dLc (iAnyD (dSl (dVar 0) (dNoPart) (dPart (dC (.v (.int 63)))))) (nG 1) (dYes) (dVar 1) [1]) (dCons (dC (.v (.int 0))) (dCons (dC (.v (.int 0))) (dCons (dC (.v (.int 0))) (dNil))))))
abbrev N_law_pool : List Str := ["script", "cell"]
theorem cut_all {xs : List D} {n : Nat} (hl : xs.length ≤ n) : cutD xs none (some (n : Int)) = xs := by
  unfold cutD
  have e1 : HT.sIx xs.length 0 none = 0 := rfl
  have e2 : HT.sIx xs.length xs.length (some (n : Int)) = xs.length := by
    rw [HT.sIx_nat]
    exact Nat.min_eq_right hl
  rw [e1, e2]
  simp
theorem ok_law_pool : ∀ ds h Q E, sp_law_pool ds h Q E → rd_law_pool (fun x _ h' => E x h') (fin Q) (startD N_law_pool ds) h := by
  rintro ds h Q E ⟨_, ns, rfl, hl, ret⟩
  show rd_law_pool _ _ [some (.k (intsD ns)), none] h
  unfold rd_law_pool
  have hcut : cutD (intsD ns) none (some 63) = intsD ns := cut_all (n := 63) (by rw [len_intsD]; exact hl)
  try simp -dsimp -implicitDefEqProofs only [↓rds1, ↓rds2, ↓rds3, ↓rds4, ↓rds5, ↓rds6, ↓rds7, ↓rds8, ↓rds9, ↓rds10, ↓rds11, List.set_cons_zero, List.set_cons_succ, ne_eq, not_false_eq_true, decide_eq_true_eq, Bool.or_true, Bool.or_false, Bool.true_or, Bool.false_or, Bool.and_true, Bool.true_and, Bool.and_false, Bool.false_and, Bool.not_true, Bool.not_false, reduceCtorEq, beq_self_eq_true, true_and, and_true, hcut]
  refine al_i fun l hf => ?_
  try simp -dsimp -implicitDefEqProofs only [↓rds1, ↓rds2, ↓rds3, ↓rds4, ↓rds5, ↓rds6, ↓rds7, ↓rds8, ↓rds9, ↓rds10, ↓rds11, List.set_cons_zero, List.set_cons_succ, ne_eq, not_false_eq_true, decide_eq_true_eq, Bool.or_true, Bool.or_false, Bool.true_or, Bool.false_or, Bool.and_true, Bool.true_and, Bool.and_false, Bool.false_and, Bool.not_true, Bool.not_false, reduceCtorEq, beq_self_eq_true, true_and, and_true, hcut]
  refine cmp_map (fun x => x) (rdL_l put_same) (by rw [len_intsD]; omega) (fun x hx S N hS => ?_) ?_
  · try simp -dsimp -implicitDefEqProofs only [↓rds1, ↓rds2, ↓rds3, ↓rds4, ↓rds5, ↓rds6, ↓rds7, ↓rds8, ↓rds9, ↓rds10, ↓rds11, List.set_cons_zero, List.set_cons_succ, ne_eq, not_false_eq_true, decide_eq_true_eq, Bool.or_true, Bool.or_false, Bool.true_or, Bool.false_or, Bool.and_true, Bool.true_and, Bool.and_false, Bool.false_and, Bool.not_true, Bool.not_false, reduceCtorEq, beq_self_eq_true, true_and, and_true]
    exact hS
  rw [List.map_id']
  intro q hq
  try simp -dsimp -implicitDefEqProofs only [↓rds1, ↓rds2, ↓rds3, ↓rds4, ↓rds5, ↓rds6, ↓rds7, ↓rds8, ↓rds9, ↓rds10, ↓rds11, List.set_cons_zero, List.set_cons_succ, ne_eq, not_false_eq_true, decide_eq_true_eq, Bool.or_true, Bool.or_false, Bool.true_or, Bool.false_or, Bool.and_true, Bool.true_and, Bool.and_false, Bool.false_and, Bool.not_true, Bool.not_false, reduceCtorEq, beq_self_eq_true, true_and, and_true]
  refine al_i fun p hp => ?_
  have q1 : q ≠ l := fun e => by rw [e, put_same] at hq; cases hq
  have p1 : p ≠ q := fun e => by rw [e, put_same] at hp; cases hp
  have p2 : p ≠ l := fun e => by rw [e, put_ne q1.symm, put_same] at hp; cases hp
  rw [put_ne q1] at hq
  rw [put_ne p1, put_ne p2] at hp
  refine finI (fun a o e => ?_) (ret p q hq hp p1.symm)
  by_cases ap : a = p
  · subst ap
    rw [put_same] at e ⊢
    exact e
  rw [put_ne ap] at e ⊢
  by_cases aq : a = q
  · subst aq
    rw [put_same] at e ⊢
    exact e
  rw [put_ne aq] at e ⊢
  have al' : a ≠ l := fun z => by rw [z, hf] at e; cases e
  rw [put_ne al']
  exact e
def sameB (h : Hd) : Nat → D → D → Prop
  | 0, _, _ => False
  | n + 1, a, d => match d with
    | .v (.ref q) => ∃ (p : Addr) (xs ys : List D), a = .v (.ref p) ∧ h p = some (.lst xs) ∧ h q = some (.lst ys) ∧ xs.length = ys.length ∧ ys.length < 2 ^ 60 ∧ ∀ (i : Nat) (x y : D), xs[i]? = some x → ys[i]? = some y → sameB h n x y
    | .v x => flatV x = true ∧ a = .v x
    | .t ys => ∃ xs : List D, a = .t xs ∧ xs.length = ys.length ∧ ys.length < 2 ^ 60 ∧ ∀ (i : Nat) (x y : D), xs[i]? = some x → ys[i]? = some y → sameB h n x y
    | .k _ => False
def sp_law_same (n : Nat) : SpD := fun ds h Q _ => ds.length = 2 ∧ ∃ a d : D, ds = [a, d] ∧ sameB h n a d ∧ Q (.v (.bl true)) h
theorem sp0_law_same {ds : List D} {h : Hd} {Q : KD} {E : XD → Hd → Prop} (q : sp_law_same 0 ds h Q E) : False := by
  obtain ⟨_, _, _, _, s, _⟩ := q
  exact s
def rd_law_same (n : Nat) (E : ER) : SD :=
  dSeq (dIfS (dOr (dTest (dCB cIsi (dCons (dVar 1) (dCons (dC (.v (.ty "tuple"))) (dNil))))) (dTest (dCB cIsi (dCons (dVar 1) (dCons (dC (.v (.ty "list"))) (dNil)))))) (dSeq (dIfS (dAnd (dTest (dCB cIsi (dCons (dVar 1) (dCons (dC (.v (.ty "tuple"))) (dNil))))) (dNot (dTest (dCB cIsi (dCons (dVar 0) (dCons (dC (.v (.ty "tuple"))) (dNil))))))) (dRet (dC (.v (.bl false)))) (dNext))
  (dSeq (dIfS (dAnd (dTest (dCB cIsi (dCons (dVar 1) (dCons (dC (.v (.ty "list"))) (dNil))))) (dNot (dTest (dCB cIsi (dCons (dVar 0) (dCons (dC (.v (.ty "list"))) (dNil))))))) (dRet (dC (.v (.bl false)))) (dNext))
  (dSeq (dIfS (dTest (d2 pNe (dCB cLen (dCons (dVar 0) (dNil))) (dCB cLen (dCons (dVar 1) (dNil))))) (dRet (dC (.v (.bl false)))) (dNext))
  (dSeq (dFor (iRng1D (dCons (dCB cLen (dCons (dVar 1) (dNil))) (dNil))) (nG 2) (dIfS (dNot (dTest (dCall (sp_law_same n) E (dCons (d2 pIt (dVar 0) (dVar 2)) (dCons (d2 pIt (dVar 1) (dVar 2)) (dNil)))))) (dRet (dC (.v (.bl false)))) (dNext)))
  (dRet (dC (.v (.bl true)))))))) (dNext))
  (dSeq (dIfS (dTest (d2 pIsA (dVar 1) (dC (.v .non)))) (dRet (d2 pIsA (dVar 0) (dC (.v .non)))) (dNext))
  (dSeq (dIfS (dTest (dCB cIsi (dCons (dVar 1) (dCons (dC (.v (.ty "bool"))) (dNil))))) (dRet (dAndV (dCB cIsi (dCons (dVar 0) (dCons (dC (.v (.ty "bool"))) (dNil)))) (d2 pEqA (dVar 0) (dVar 1)))) (dNext))
  (dSeq (dIfS (dTest (dCB cIsi (dCons (dVar 1) (dCons (dC (.v (.ty "int"))) (dNil))))) (dRet (dAndV (dCB cIsi (dCons (dVar 0) (dCons (dC (.v (.ty "int"))) (dNil)))) (dAndV (dNotV (dCB cIsi (dCons (dVar 0) (dCons (dC (.v (.ty "bool"))) (dNil))))) (d2 pEqA (dVar 0) (dVar 1))))) (dNext))
  (dRet (dAndV (dCB cIsi (dCons (dVar 0) (dCons (dC (.v (.ty "str"))) (dNil)))) (d2 pEqA (dVar 0) (dVar 1)))))))
abbrev N_law_same : List Str := ["actual", "due", "at"]
theorem atI_of {xs : List D} {i : Nat} {x : D} (h : xs[i]? = some x) : atI xs (i : Int) = some x := atI_nat h
theorem rangeD_get {lo : Int} {n i : Nat} {x : D} (h : (rangeD lo n)[i]? = some x) : i < n ∧ x = .v (.int (lo + (i : Int))) := by
  unfold rangeD at h
  rw [List.getElem?_map] at h
  cases e : (List.range n)[i]? with
  | none => rw [e] at h; cases h
  | some j =>
    rw [e] at h
    obtain ⟨h1, h2⟩ := List.getElem?_eq_some_iff.mp e
    rw [List.getElem_range] at h2
    subst h2
    cases h
    exact ⟨by simpa using h1, rfl⟩
theorem lt62 {n : Nat} (h : n < 2 ^ 60) : (-4611686018427387904 : Int) ≤ (n : Int) ∧ (n : Int) < 4611686018427387904 := by
  have : (2 : Nat) ^ 60 = 1152921504606846976 := by decide
  omega
theorem toNat_n {n : Nat} : (n : Int).toNat = n := Int.toNat_natCast n
theorem ok_law_same (n : Nat) : ∀ ds h Q E, sp_law_same (n + 1) ds h Q E → rd_law_same n (fun x _ h' => E x h') (fin Q) (startD N_law_same ds) h := by
  rintro ds h Q E ⟨_, a, d, rfl, s, ret⟩
  show rd_law_same _ _ _ [some a, some d, none] h
  unfold rd_law_same
  cases d with
  | k ds => exact s.elim
  | t ys =>
    obtain ⟨xs, rfl, hl, hb, hs⟩ := s
    try simp -dsimp -implicitDefEqProofs only [↓rds1, ↓rds2, ↓rds3, ↓rds4, ↓rds5, ↓rds6, ↓rds7, ↓rds8, ↓rds9, ↓rds10, ↓rds11, List.set_cons_zero, List.set_cons_succ, ne_eq, not_false_eq_true, decide_eq_true_eq, Bool.or_true, Bool.or_false, Bool.true_or, Bool.false_or, Bool.and_true, Bool.true_and, Bool.and_false, Bool.false_and, Bool.not_true, Bool.not_false, reduceCtorEq, beq_self_eq_true, true_and, and_true, hl, decide_true, toNat_n]
    refine ⟨lt62 hb, loop_of (fun i σ h' => h' = h ∧ ∃ v, σ = [some (.t xs), some (.t ys), v]) ⟨rfl, _, rfl⟩ (fun _ _ _ _ _ => trivial) ?_ ?_⟩
    · rintro i x σ h' hx ⟨rfl, v, rfl⟩ N hN
      obtain ⟨hi, rfl⟩ := rangeD_get hx
      have e1 := atI_of (List.getElem?_eq_getElem (l := xs) (i := i) (by omega))
      have e2 := atI_of (List.getElem?_eq_getElem (l := ys) (i := i) hi)
      try simp -dsimp -implicitDefEqProofs only [↓rds1, ↓rds2, ↓rds3, ↓rds4, ↓rds5, ↓rds6, ↓rds7, ↓rds8, ↓rds9, ↓rds10, ↓rds11, List.set_cons_zero, List.set_cons_succ, ne_eq, not_false_eq_true, decide_eq_true_eq, Bool.or_true, Bool.or_false, Bool.true_or, Bool.false_or, Bool.and_true, Bool.true_and, Bool.and_false, Bool.false_and, Bool.not_true, Bool.not_false, reduceCtorEq, beq_self_eq_true, true_and, and_true, Int.zero_add, e1, e2]
      refine cl_i ⟨rfl, _, _, rfl, hs i _ _ (List.getElem?_eq_getElem _) (List.getElem?_eq_getElem _), ?_⟩
      try simp -dsimp -implicitDefEqProofs only [↓rds1, ↓rds2, ↓rds3, ↓rds4, ↓rds5, ↓rds6, ↓rds7, ↓rds8, ↓rds9, ↓rds10, ↓rds11, List.set_cons_zero, List.set_cons_succ, ne_eq, not_false_eq_true, decide_eq_true_eq, Bool.or_true, Bool.or_false, Bool.true_or, Bool.false_or, Bool.and_true, Bool.true_and, Bool.and_false, Bool.false_and, Bool.not_true, Bool.not_false, reduceCtorEq, beq_self_eq_true, true_and, and_true]
      exact hN _ _ ⟨rfl, _, rfl⟩
    · rintro σ h' ⟨rfl, v, rfl⟩
      try simp -dsimp -implicitDefEqProofs only [↓rds1, ↓rds2, ↓rds3, ↓rds4, ↓rds5, ↓rds6, ↓rds7, ↓rds8, ↓rds9, ↓rds10, ↓rds11, List.set_cons_zero, List.set_cons_succ, ne_eq, not_false_eq_true, decide_eq_true_eq, Bool.or_true, Bool.or_false, Bool.true_or, Bool.false_or, Bool.and_true, Bool.true_and, Bool.and_false, Bool.false_and, Bool.not_true, Bool.not_false, reduceCtorEq, beq_self_eq_true, true_and, and_true]
      exact finR ret
  | v x =>
    cases x with
    | non =>
      obtain ⟨_, rfl⟩ := s
      try simp -dsimp -implicitDefEqProofs only [↓rds1, ↓rds2, ↓rds3, ↓rds4, ↓rds5, ↓rds6, ↓rds7, ↓rds8, ↓rds9, ↓rds10, ↓rds11, List.set_cons_zero, List.set_cons_succ, ne_eq, not_false_eq_true, decide_eq_true_eq, Bool.or_true, Bool.or_false, Bool.true_or, Bool.false_or, Bool.and_true, Bool.true_and, Bool.and_false, Bool.false_and, Bool.not_true, Bool.not_false, reduceCtorEq, beq_self_eq_true, true_and, and_true]
      exact finR ret
    | int i =>
      obtain ⟨_, rfl⟩ := s
      try simp -dsimp -implicitDefEqProofs only [↓rds1, ↓rds2, ↓rds3, ↓rds4, ↓rds5, ↓rds6, ↓rds7, ↓rds8, ↓rds9, ↓rds10, ↓rds11, List.set_cons_zero, List.set_cons_succ, ne_eq, not_false_eq_true, decide_eq_true_eq, Bool.or_true, Bool.or_false, Bool.true_or, Bool.false_or, Bool.and_true, Bool.true_and, Bool.and_false, Bool.false_and, Bool.not_true, Bool.not_false, reduceCtorEq, beq_self_eq_true, true_and, and_true, decide_true]
      exact finR ret
    | bl k =>
      obtain ⟨_, rfl⟩ := s
      try simp -dsimp -implicitDefEqProofs only [↓rds1, ↓rds2, ↓rds3, ↓rds4, ↓rds5, ↓rds6, ↓rds7, ↓rds8, ↓rds9, ↓rds10, ↓rds11, List.set_cons_zero, List.set_cons_succ, ne_eq, not_false_eq_true, decide_eq_true_eq, Bool.or_true, Bool.or_false, Bool.true_or, Bool.false_or, Bool.and_true, Bool.true_and, Bool.and_false, Bool.false_and, Bool.not_true, Bool.not_false, reduceCtorEq, beq_self_eq_true, true_and, and_true, decide_true]
      refine ⟨by simp [plD, flatV], ?_⟩
      have e : eqD (.v (.bl k)) (.v (.bl k)) = true := by unfold eqD; exact eqV_refl rfl
      rw [e]
      exact finR ret
    | str z =>
      obtain ⟨_, rfl⟩ := s
      try simp -dsimp -implicitDefEqProofs only [↓rds1, ↓rds2, ↓rds3, ↓rds4, ↓rds5, ↓rds6, ↓rds7, ↓rds8, ↓rds9, ↓rds10, ↓rds11, List.set_cons_zero, List.set_cons_succ, ne_eq, not_false_eq_true, decide_eq_true_eq, Bool.or_true, Bool.or_false, Bool.true_or, Bool.false_or, Bool.and_true, Bool.true_and, Bool.and_false, Bool.false_and, Bool.not_true, Bool.not_false, reduceCtorEq, beq_self_eq_true, true_and, and_true, decide_true]
      exact finR ret
    | ref q =>
      obtain ⟨p, xs, ys, rfl, hp, hq, hl, hb, hs⟩ := s
      try simp -dsimp -implicitDefEqProofs only [↓rds1, ↓rds2, ↓rds3, ↓rds4, ↓rds5, ↓rds6, ↓rds7, ↓rds8, ↓rds9, ↓rds10, ↓rds11, List.set_cons_zero, List.set_cons_succ, ne_eq, not_false_eq_true, decide_eq_true_eq, Bool.or_true, Bool.or_false, Bool.true_or, Bool.false_or, Bool.and_true, Bool.true_and, Bool.and_false, Bool.false_and, Bool.not_true, Bool.not_false, reduceCtorEq, beq_self_eq_true, true_and, and_true, hp, hq, hl, decide_true, toNat_n]
      refine ⟨lt62 hb, loop_of (fun i σ h' => h' = h ∧ ∃ v, σ = [some (.v (.ref p)), some (.v (.ref q)), v]) ⟨rfl, _, rfl⟩ (fun _ _ _ _ _ => trivial) ?_ ?_⟩
      · rintro i x σ h' hx ⟨rfl, v, rfl⟩ N hN
        obtain ⟨hi, rfl⟩ := rangeD_get hx
        have e1 := atI_of (List.getElem?_eq_getElem (l := xs) (i := i) (by omega))
        have e2 := atI_of (List.getElem?_eq_getElem (l := ys) (i := i) hi)
        try simp -dsimp -implicitDefEqProofs only [↓rds1, ↓rds2, ↓rds3, ↓rds4, ↓rds5, ↓rds6, ↓rds7, ↓rds8, ↓rds9, ↓rds10, ↓rds11, List.set_cons_zero, List.set_cons_succ, ne_eq, not_false_eq_true, decide_eq_true_eq, Bool.or_true, Bool.or_false, Bool.true_or, Bool.false_or, Bool.and_true, Bool.true_and, Bool.and_false, Bool.false_and, Bool.not_true, Bool.not_false, reduceCtorEq, beq_self_eq_true, true_and, and_true, hp, hq, Int.zero_add, e1, e2]
        refine cl_i ⟨rfl, _, _, rfl, hs i _ _ (List.getElem?_eq_getElem _) (List.getElem?_eq_getElem _), ?_⟩
        try simp -dsimp -implicitDefEqProofs only [↓rds1, ↓rds2, ↓rds3, ↓rds4, ↓rds5, ↓rds6, ↓rds7, ↓rds8, ↓rds9, ↓rds10, ↓rds11, List.set_cons_zero, List.set_cons_succ, ne_eq, not_false_eq_true, decide_eq_true_eq, Bool.or_true, Bool.or_false, Bool.true_or, Bool.false_or, Bool.and_true, Bool.true_and, Bool.and_false, Bool.false_and, Bool.not_true, Bool.not_false, reduceCtorEq, beq_self_eq_true, true_and, and_true]
        exact hN _ _ ⟨rfl, _, rfl⟩
      · rintro σ h' ⟨rfl, v, rfl⟩
        try simp -dsimp -implicitDefEqProofs only [↓rds1, ↓rds2, ↓rds3, ↓rds4, ↓rds5, ↓rds6, ↓rds7, ↓rds8, ↓rds9, ↓rds10, ↓rds11, List.set_cons_zero, List.set_cons_succ, ne_eq, not_false_eq_true, decide_eq_true_eq, Bool.or_true, Bool.or_false, Bool.true_or, Bool.false_or, Bool.and_true, Bool.true_and, Bool.and_false, Bool.false_and, Bool.not_true, Bool.not_false, reduceCtorEq, beq_self_eq_true, true_and, and_true]
        exact finR ret
    | _ => obtain ⟨f, _⟩ := s; cases f
def smD : Nat → D → Prop
  | 0, _ => False
  | n + 1, d => match d with
    | .v x => flatV x = true
    | .t ys => ys.length < 2 ^ 60 ∧ ∀ y, y ∈ ys → smD n y
    | .k _ => False
theorem same_refl {h : Hd} : ∀ {n : Nat} {d : D}, smD n d → sameB h n d d
  | 0, _, s => s.elim
  | n + 1, .k _, s => s.elim
  | n + 1, .t ys, s => ⟨ys, rfl, rfl, s.1, fun i x y e1 e2 => by
    rw [e1] at e2
    cases e2
    exact same_refl (s.2 x (List.mem_of_getElem? e1))⟩
  | n + 1, .v x, s => by
    cases x with
    | ref => cases (show flatV (.ref _) = true from s)
    | _ => exact ⟨s, rfl⟩
end DL
namespace DL
open PySem L2
theorem pool_put {h : Hd} {p q : Addr} {cells : List Int} (P : PoolAt h p q cells) (s : Int × Int × Int) : PoolAt (put h p (poolO q s)) p q cells := ⟨⟨s, put_same⟩, by rw [put_ne P.ne]; exact P.cl, P.ne, P.ln⟩
theorem log_lt {k : Int} {n : Nat} (h0 : 0 ≤ k) (h : k < 2 ^ n) : k.natAbs.log2 ≤ n := by
  by_cases z : k.natAbs = 0
  · rw [z]; exact Nat.zero_le _
  · refine Nat.le_of_lt ((Nat.log2_lt z).mpr ?_)
    have e : ((k.natAbs : Nat) : Int) = k := by omega
    have : ((k.natAbs : Nat) : Int) < ((2 ^ n : Nat) : Int) := by rw [e]; simpa using h
    exact_mod_cast this
theorem put_comm {h : Hd} {a b : Addr} {x y : O} (n : a ≠ b) : put (put h a x) b y = put (put h b y) a x := by
  funext c
  unfold put
  by_cases e1 : c = b
  · rw [if_pos e1]
    by_cases e2 : c = a
    · exact absurd (e2.symm.trans e1) n
    · rw [if_neg e2, if_pos e1]
  · rw [if_neg e1]
    by_cases e2 : c = a
    · rw [if_pos e2, if_pos e2]
    · rw [if_neg e2, if_neg e2, if_neg e1]
theorem ints_app (xs ys : List Int) : intsD (xs ++ ys) = intsD xs ++ intsD ys := List.map_append
end DL
namespace DL
open PySem L2
def lw (a b c d : Int) : Str :=
  if b < c then "a" else if b = c then "m" else if d < a then "A" else if d = a then "M" else
  if a < c then (if b < d then "o" else if b = d then "E" else "W") else
  if a = c then (if b < d then "b" else if b = d then "s" else "B") else
  (if b < d then "w" else if b = d then "e" else "O")
def cyl (a u v : Int) : Bool := decide ((a ≤ u ∧ a ≤ v ∧ u < v) ∨ (a ≤ u ∧ v < a) ∨ (u < a ∧ v < a ∧ u < v))
def pl (a b x : Int) : Str := if x = a then "b" else if cyl a x b = true then "i" else if x = b then "e" else "o"
def lets : List Str := ["b", "i", "e", "o"]
def joinW (p q : Str) (back : Bool) : Str := if p = "i" ∧ q = "i" ∧ back = true then "II" else if p = "o" ∧ q = "o" ∧ back = true then "OO" else p ++ q
def cw (a b c d : Int) : Str := joinW (pl a b c) (pl a b d) (cyl a d c)
theorem cw_mono {f : Int → Int} {a b c d : Int} (h : ∀ x y, x ∈ [a, b, c, d] → y ∈ [a, b, c, d] → (f x < f y ↔ x < y)) : cw (f a) (f b) (f c) (f d) = cw a b c d := by
  have e : ∀ x y, x ∈ [a, b, c, d] → y ∈ [a, b, c, d] → (f x = f y ↔ x = y) := fun x y hx hy => by
    have h1 := h x y hx hy
    have h2 := h y x hy hx
    omega
  have l : ∀ x y, x ∈ [a, b, c, d] → y ∈ [a, b, c, d] → (f x ≤ f y ↔ x ≤ y) := fun x y hx hy => by
    have h2 := h y x hy hx
    omega
  have ma : a ∈ [a, b, c, d] := by simp
  have mb : b ∈ [a, b, c, d] := by simp
  have mc : c ∈ [a, b, c, d] := by simp
  have md : d ∈ [a, b, c, d] := by simp
  have cy : ∀ x y, x ∈ [a, b, c, d] → y ∈ [a, b, c, d] → cyl (f a) (f x) (f y) = cyl a x y := fun x y hx hy => by
    unfold cyl
    rw [decide_eq_decide]
    rw [l a x ma hx, l a y ma hy, h x y hx hy, h y a hy ma, h x a hx ma]
  have p : ∀ x, x ∈ [a, b, c, d] → pl (f a) (f b) (f x) = pl a b x := fun x hx => by
    unfold pl
    rw [cy x b hx mb]
    simp only [e x a hx ma, e x b hx mb]
  unfold cw
  rw [p c mc, p d md, cy d c md mc]
def rk (l : List Int) (x : Int) : Nat := (l.filter fun y => decide (y < x)).length
theorem rk_lt : ∀ {l : List Int} {x y : Int}, x ∈ l → x < y → rk l x < rk l y := by
  intro l x y hx h
  have mono : ∀ l : List Int, rk l x ≤ rk l y := by
    intro l
    induction l with
    | nil => exact Nat.le_refl _
    | cons z r ih =>
      unfold rk at ih ⊢
      rw [List.filter_cons, List.filter_cons]
      by_cases c : z < x
      · rw [if_pos (decide_eq_true c), if_pos (decide_eq_true (by omega))]
        exact Nat.succ_le_succ ih
      · rw [if_neg (fun z => c (of_decide_eq_true z))]
        split
        · exact Nat.le_succ_of_le ih
        · exact ih
  induction l with
  | nil => cases hx
  | cons z r ih =>
    rcases List.mem_cons.mp hx with e | hx
    · subst e
      have := mono r
      unfold rk at this ⊢
      rw [List.filter_cons, List.filter_cons, if_neg (fun z => Int.lt_irrefl _ (of_decide_eq_true z)), if_pos (decide_eq_true h)]
      exact Nat.lt_succ_of_le this
    · have := ih hx
      unfold rk at this ⊢
      rw [List.filter_cons, List.filter_cons]
      by_cases c : z < x
      · rw [if_pos (decide_eq_true c), if_pos (decide_eq_true (by omega))]
        exact Nat.succ_lt_succ this
      · rw [if_neg (fun z => c (of_decide_eq_true z))]
        split
        · exact Nat.lt_succ_of_lt this
        · exact this
theorem rk_lt4 {l : List Int} {x : Int} (h : x ∈ l) : rk l x < l.length := by
  unfold rk
  induction l with
  | nil => cases h
  | cons z r ih =>
    rw [List.filter_cons, List.length_cons]
    rcases List.mem_cons.mp h with e | h
    · subst e
      rw [if_neg (fun z => Int.lt_irrefl _ (of_decide_eq_true z))]
      exact Nat.lt_succ_of_le (List.length_filter_le _ _)
    · split
      · rw [List.length_cons]
        exact Nat.succ_lt_succ (ih h)
      · exact Nat.lt_succ_of_lt (ih h)
end DL
namespace DL
open PySem L2
abbrev Pr := Int × Int
def prD (p : Pr) : D := .t [.v (.int p.1), .v (.int p.2)]
def prOk (kind : Str) (p : Pr) : Prop := if kind = "ring" then p.1 ≠ p.2 else p.1 < p.2
theorem pool_keep {h : Hd} {p q l : Addr} {cells : List Int} {o : O} (P : PoolAt h p q cells) (n : h l = none) : PoolAt (put h l o) p q cells := by
  have l1 : l ≠ p := fun e => by obtain ⟨z, e'⟩ := P.st; rw [e, e'] at n; cases n
  have l2 : l ≠ q := fun e => by rw [e, P.cl] at n; cases n
  obtain ⟨s, e⟩ := P.st
  exact ⟨⟨s, by rw [put_ne l1.symm]; exact e⟩, by rw [put_ne l2.symm]; exact P.cl, P.ne, P.ln⟩
theorem pool_ne {h : Hd} {p q l : Addr} {cells : List Int} (P : PoolAt h p q cells) (n : h l = none) : l ≠ p ∧ l ≠ q := by
  refine ⟨fun e => ?_, fun e => ?_⟩
  · obtain ⟨z, e'⟩ := P.st; rw [e, e'] at n; cases n
  · rw [e, P.cl] at n; cases n
theorem log_small {k : Int} (h0 : 0 ≤ k) (h : k < 2 ^ 40) : k.natAbs.log2 < 9000 := Nat.lt_of_le_of_lt (log_lt h0 h) (by decide)
def ded1 (acc : List Int) (x : Int) : List Int := if x ∈ acc then acc else acc ++ [x]
def ded (acc l : List Int) : List Int := l.foldl ded1 acc
theorem ded_mem : ∀ {l acc : List Int} {x : Int}, x ∈ ded acc l ↔ x ∈ acc ∨ x ∈ l
  | [], acc, x => by simp [ded]
  | y :: r, acc, x => by
    show x ∈ ded (ded1 acc y) r ↔ _
    rw [ded_mem]
    unfold ded1
    split
    · rename_i h
      constructor
      · rintro (a | a)
        · exact .inl a
        · exact .inr (List.mem_cons_of_mem _ a)
      · rintro (a | a)
        · exact .inl a
        · rcases List.mem_cons.mp a with e | a
          · subst e; exact .inl h
          · exact .inr a
    · constructor
      · rintro (a | a)
        · rcases List.mem_append.mp a with a | a
          · exact .inl a
          · rw [List.mem_singleton.mp a]; exact .inr List.mem_cons_self
        · exact .inr (List.mem_cons_of_mem _ a)
      · rintro (a | a)
        · exact .inl (List.mem_append_left _ a)
        · rcases List.mem_cons.mp a with e | a
          · subst e; exact .inl (List.mem_append_right _ (List.mem_singleton.mpr rfl))
          · exact .inr a
theorem ded_nodup : ∀ {l acc : List Int}, acc.Nodup → (ded acc l).Nodup
  | [], acc, h => h
  | y :: r, acc, h => by
    show (ded (ded1 acc y) r).Nodup
    refine ded_nodup ?_
    unfold ded1
    split
    · exact h
    · rename_i n
      rw [List.nodup_append]
      exact ⟨h, by simp, fun a ha b hb e => by rw [List.mem_singleton.mp hb] at e; subst e; exact n ha⟩
theorem ded_len : ∀ {l acc : List Int}, (ded acc l).length ≤ acc.length + l.length
  | [], acc => Nat.le_refl _
  | y :: r, acc => by
    show (ded (ded1 acc y) r).length ≤ _
    refine Nat.le_trans ded_len ?_
    unfold ded1
    split
    · rw [List.length_cons]; omega
    · rw [List.length_append, List.length_cons, List.length_cons, List.length_nil]; omega
def moms (ps : List Pr) : List Int := ps.flatMap fun p => [p.1, p.2]
def dedL (ps : List Pr) : List Int := ded [] (moms ps)
theorem moms_len : ∀ ps : List Pr, (moms ps).length = 2 * ps.length
  | [] => rfl
  | p :: r => by
    show (p.1 :: p.2 :: moms r).length = _
    rw [List.length_cons, List.length_cons, moms_len r, List.length_cons]; omega
theorem mem_moms {ps : List Pr} {p : Pr} (h : p ∈ ps) : p.1 ∈ moms ps ∧ p.2 ∈ moms ps :=
  ⟨List.mem_flatMap.mpr ⟨p, h, List.mem_cons_self⟩, List.mem_flatMap.mpr ⟨p, h, List.mem_cons_of_mem _ List.mem_cons_self⟩⟩
def nrm (d : List Int) (t x : Int) : Int := (((rk d x : Nat) : Int) - t) % ((d.length : Nat) : Int)
def turnOf (kind : Str) (ps : List Pr) : Int := if kind = "ring" then ((rk (dedL ps) (ps.headD (0, 0)).1 : Nat) : Int) else 0
def normF (kind : Str) (ps : List Pr) : List Pr := ps.map fun p => (nrm (dedL ps) (turnOf kind ps) p.1, nrm (dedL ps) (turnOf kind ps) p.2)
inductive Fg where
  | one (ps : List Pr)
  | two (ps qs : List Pr)
def figD : Fg → D
  | .one ps => .t (ps.map prD)
  | .two ps qs => .t [.t (ps.map prD), .t (qs.map prD)]
def FigOk (kind : Str) (count : Nat) : Fg → Prop
  | .one ps => (kind = "line" ∨ kind = "ring") ∧ ∃ ns : List Pr, ns.length = count ∧ (∀ x ∈ ns, prOk kind x) ∧ ps = normF kind ns
  | .two ps qs => kind = "box" ∧ (∃ ns : List Pr, ns.length = count ∧ (∀ x ∈ ns, prOk "line" x) ∧ ps = normF "line" ns) ∧ ∃ ns : List Pr, ns.length = count ∧ (∀ x ∈ ns, prOk "line" x) ∧ qs = normF "line" ns
def kds : List Str := ["line", "ring", "box"]
theorem ne_nil {α : Type} {l : List α} {n : Nat} (h : l.length = n) (h1 : 1 ≤ n) : l ≠ [] := fun e => by rw [e] at h; simp at h; omega
def pAt (ps : List Pr) (i : Nat) : Pr := ps.getD i (0, 0)
def FigK (kind : Str) (count : Nat) : Fg → Prop
  | .one ps => (kind = "line" ∨ kind = "ring") ∧ ps.length = count
  | .two ps qs => kind = "box" ∧ ps.length = count ∧ qs.length = count
theorem FigOk.k {kind : Str} {count : Nat} : ∀ {f : Fg}, FigOk kind count f → FigK kind count f
  | .one _, ⟨h, ns, h1, _, e⟩ => ⟨h, by rw [e]; unfold normF; rw [List.length_map]; exact h1⟩
  | .two _ _, ⟨h, ⟨ns, h1, _, e⟩, ms, h2, _, e'⟩ => ⟨h, by rw [e]; unfold normF; rw [List.length_map]; exact h1, by rw [e']; unfold normF; rw [List.length_map]; exact h2⟩
end DL
namespace DL
open PySem L2
theorem rl : (("ring" : Str) = "line") = False := by decide
theorem lr : (("line" : Str) = "ring") = False := by decide
theorem br : (("box" : Str) = "ring") = False := by decide
theorem bl : (("box" : Str) = "line") = False := by decide
theorem rb : (("ring" : Str) = "box") = False := by decide
theorem lb : (("line" : Str) = "box") = False := by decide
theorem php : ∀ (m : Nat) (l : List Int), l.Nodup → (∀ x, x ∈ l → 0 ≤ x ∧ x < (m : Int)) → l.length ≤ m
  | 0, l, _, h => by
    cases l with
    | nil => exact Nat.le_refl _
    | cons x r => have := h x List.mem_cons_self; omega
  | m + 1, l, hd, h => by
    by_cases c : (m : Int) ∈ l
    · have h1 := php m (l.erase (m : Int)) (hd.erase _) fun x hx => by
        have hm := (hd.mem_erase_iff.mp hx)
        have := h x hm.2
        have := hm.1
        omega
      have h2 := List.length_erase_of_mem c
      have h3 := List.length_pos_of_mem c
      omega
    · have h1 := php m l hd fun x hx => by
        have := h x hx
        have : x ≠ (m : Int) := fun e => c (e ▸ hx)
        omega
      omega
theorem nrm_inj {d : List Int} {t x y : Int} (hx : x ∈ d) (hy : y ∈ d) (e : nrm d t x = nrm d t y) : x = y := by
  have r : ∀ u v, u ∈ d → v ∈ d → rk d u = rk d v → u = v := fun u v hu hv e => by
    rcases Int.lt_trichotomy u v with c | c | c
    · have := rk_lt hu c; omega
    · exact c
    · have := rk_lt hv c; omega
  have h1 := rk_lt4 hx
  have h2 := rk_lt4 hy
  refine r x y hx hy ?_
  unfold nrm at e
  rw [Int.emod_eq_emod_iff_emod_sub_eq_zero] at e
  have e2 : ((rk d x : Nat) : Int) - t - (((rk d y : Nat) : Int) - t) = ((rk d x : Nat) : Int) - (rk d y : Nat) := by omega
  rw [e2] at e
  have e3 := Int.emod_eq_zero_of_dvd (Int.dvd_of_emod_eq_zero e)
  by_cases c : rk d y ≤ rk d x
  · rw [Int.emod_eq_of_lt (by omega) (by omega)] at e
    omega
  · have e4 : (((rk d y : Nat) : Int) - (rk d x : Nat)) % ((d.length : Nat) : Int) = 0 := by
      refine Int.emod_eq_zero_of_dvd ?_
      have := Int.dvd_of_emod_eq_zero e
      have e5 : ((rk d y : Nat) : Int) - (rk d x : Nat) = -(((rk d x : Nat) : Int) - (rk d y : Nat)) := by omega
      rw [e5]
      exact Int.dvd_neg.mpr this
    rw [Int.emod_eq_of_lt (by omega) (by omega)] at e4
    omega
theorem moms_map (f : Int → Int) (ps : List Pr) : moms (ps.map fun p => (f p.1, f p.2)) = (moms ps).map f := by
  induction ps with
  | nil => rfl
  | cons p r ih =>
    show f p.1 :: f p.2 :: moms (r.map fun p => (f p.1, f p.2)) = _
    rw [ih]
    rfl
theorem ded_map {f : Int → Int} : ∀ {l acc : List Int}, (∀ x y, (x ∈ acc ∨ x ∈ l) → (y ∈ acc ∨ y ∈ l) → f x = f y → x = y) → ded (acc.map f) (l.map f) = (ded acc l).map f
  | [], acc, _ => rfl
  | y :: r, acc, h => by
    show ded (ded1 (acc.map f) (f y)) (r.map f) = (ded (ded1 acc y) r).map f
    have e : ded1 (acc.map f) (f y) = (ded1 acc y).map f := by
      unfold ded1
      by_cases c : y ∈ acc
      · rw [if_pos c, if_pos (List.mem_map.mpr ⟨y, c, rfl⟩)]
      · rw [if_neg c, if_neg (fun z => by
          obtain ⟨u, hu, e⟩ := List.mem_map.mp z
          have := h u y (.inl hu) (.inr List.mem_cons_self) e
          subst this
          exact c hu), List.map_append]
        rfl
    rw [e]
    refine ded_map fun u v hu hv => h u v ?_ ?_
    · rcases hu with hu | hu
      · unfold ded1 at hu
        split at hu
        · exact .inl hu
        · rcases List.mem_append.mp hu with hu | hu
          · exact .inl hu
          · rw [List.mem_singleton.mp hu]; exact .inr List.mem_cons_self
      · exact .inr (List.mem_cons_of_mem _ hu)
    · rcases hv with hu | hu
      · unfold ded1 at hu
        split at hu
        · exact .inl hu
        · rcases List.mem_append.mp hu with hu | hu
          · exact .inl hu
          · rw [List.mem_singleton.mp hu]; exact .inr List.mem_cons_self
      · exact .inr (List.mem_cons_of_mem _ hu)
theorem dedL_norm (kind : Str) (ns : List Pr) : dedL (normF kind ns) = (dedL ns).map (nrm (dedL ns) (turnOf kind ns)) := by
  unfold normF
  have e := moms_map (nrm (dedL ns) (turnOf kind ns)) ns
  show ded [] (moms _) = _
  rw [e]
  have := ded_map (f := nrm (dedL ns) (turnOf kind ns)) (l := moms ns) (acc := []) fun x y hx hy e => by
    have hx' : x ∈ dedL ns := ded_mem.mpr hx
    have hy' : y ∈ dedL ns := ded_mem.mpr hy
    exact nrm_inj hx' hy' e
  exact this
theorem moments_eq {kind : Str} {ns : List Pr} (hne : ns ≠ []) : 1 + maxI ((normF kind ns).map fun p => maxI [p.1, p.2]) = (((dedL (normF kind ns)).length : Nat) : Int) := by
  have hF : normF kind ns ≠ [] := by unfold normF; exact fun e => hne (List.map_eq_nil_iff.mp e)
  have hn : (dedL (normF kind ns)).length = (dedL ns).length := by rw [dedL_norm, List.length_map]
  have hnd : (dedL (normF kind ns)).Nodup := ded_nodup List.nodup_nil
  have rng : ∀ x, x ∈ dedL (normF kind ns) → 0 ≤ x ∧ x < ((dedL ns).length : Int) := fun x hx => by
    rw [dedL_norm] at hx
    obtain ⟨u, hu, rfl⟩ := List.mem_map.mp hx
    have hp := List.length_pos_of_mem hu
    exact ⟨Int.emod_nonneg _ (by omega), Int.emod_lt_of_pos _ (by omega)⟩
  have M1 := maxI_mem (ns := (normF kind ns).map fun p => maxI [p.1, p.2]) (fun e => hF (List.map_eq_nil_iff.mp e))
  obtain ⟨p, hp, ep⟩ := List.mem_map.mp M1
  have up : ∀ x, x ∈ dedL (normF kind ns) → x ≤ maxI ((normF kind ns).map fun p => maxI [p.1, p.2]) := fun x hx => by
    have hx := ded_mem.mp hx
    rcases hx with hx | hx
    · cases hx
    · obtain ⟨p, hp, hx⟩ := List.mem_flatMap.mp hx
      refine Int.le_trans (maxI_ge hx) (maxI_ge (List.mem_map.mpr ⟨p, hp, rfl⟩))
  have mm : maxI [p.1, p.2] ∈ dedL (normF kind ns) := by
    refine ded_mem.mpr (.inr (List.mem_flatMap.mpr ⟨p, hp, maxI_mem (by simp)⟩))
  have r1 := rng _ mm
  rw [ep] at r1
  have := php (maxI ((normF kind ns).map fun p => maxI [p.1, p.2]) + 1).toNat _ hnd fun x hx => ⟨(rng x hx).1, by have := up x hx; omega⟩
  omega
theorem dcm_of {g : GD} {tt : TD} {tk tv : ED} {chk : Hd → Prop} {items : List D} {σ : Sd} {h : Hd} {Q : List (Key × D) → Hd → Prop} {b : BxD Q} (A : Nat → List (Key × D)) (h0 : A 0 = []) (hc : chk h)
    (step : ∀ i x, items[i]? = some x → ∀ (S : List (Key × D) → Hd → Prop) (N : Hd → Prop), S (A (i + 1)) h → g x σ h fun σ2 h2 => tt σ2 h2 fun c h3 => dIte (c = true) (tk σ2 h3 fun y h4 => tv σ2 h4 fun z h5 => mO (keyD y) fun key => (A i).length < sizeLine ∧ S (putD (A i) key z) h5) (N h3) .mk)
    (q : Q (A items.length) h) : dcm g tt tk tv chk items σ h Q b := by
  suffices ∀ (l : List D) (k : Nat), l = items.drop k → k ≤ items.length → dDComp g tt tk tv chk l (A k) σ h Q by
    have := this items 0 rfl (Nat.zero_le _)
    rw [h0] at this
    exact this
  intro l
  induction l with
  | nil =>
    intro k e hk
    have h1 : items.length ≤ k := by
      have := congrArg List.length e
      rw [List.length_nil, List.length_drop] at this
      omega
    have : k = items.length := by omega
    subst this
    exact ⟨hc, q⟩
  | cons x r ih =>
    intro k e hk
    have hlt : k < items.length := by
      have := congrArg List.length e
      rw [List.length_cons, List.length_drop] at this
      omega
    rw [List.drop_eq_getElem_cons hlt] at e
    injection e with e3 e4
    exact ⟨hc, step k x (by rw [e3]; exact List.getElem?_eq_getElem hlt) (fun a h' => dDComp g tt tk tv chk r a σ h' Q) _ (ih (k + 1) e4 hlt)⟩
def Cut (d : List Int) (c : Int) (g : Int → Int) : Prop := ∀ x y, x ∈ d → y ∈ d → (g x < g y ↔ (if x < c then (y < c ∧ x < y) else (y < c ∨ x < y)))
theorem Cut.inj {d : List Int} {c : Int} {g : Int → Int} (C : Cut d c g) {x y : Int} (hx : x ∈ d) (hy : y ∈ d) (e : g x = g y) : x = y := by
  have h1 := C x y hx hy
  have h2 := C y x hy hx
  rw [e] at h1 h2
  have h1 := mt h1.mpr (Int.lt_irrefl _)
  have h2 := mt h2.mpr (Int.lt_irrefl _)
  split at h1 <;> split at h2 <;> omega
def Asc (d : List Int) (g : Int → Int) : Prop := ∀ x y, x ∈ d → y ∈ d → (g x < g y ↔ x < y)
theorem mem_dedL {ns : List Pr} {p : Pr} (h : p ∈ ns) : p.1 ∈ dedL ns ∧ p.2 ∈ dedL ns := ⟨ded_mem.mpr (.inr (mem_moms h).1), ded_mem.mpr (.inr (mem_moms h).2)⟩
theorem turn_line (ns : List Pr) : turnOf "line" ns = 0 := by
  unfold turnOf
  rw [if_neg (by decide)]
theorem rk_asc {d : List Int} {x y : Int} (hx : x ∈ d) (hy : y ∈ d) : rk d x < rk d y ↔ x < y := by
  refine ⟨fun h => ?_, fun h => rk_lt hx h⟩
  rcases Int.lt_trichotomy x y with c | c | c
  · exact c
  · subst c; omega
  · have := rk_lt hy c; omega
theorem nrm_zero {d : List Int} {x : Int} (hx : x ∈ d) : nrm d 0 x = ((rk d x : Nat) : Int) := by
  have := rk_lt4 hx
  unfold nrm
  rw [Int.sub_zero, Int.emod_eq_of_lt (by omega) (by omega)]
theorem nrm_asc {d : List Int} : Asc d (nrm d 0) := by
  intro x y hx hy
  rw [nrm_zero hx, nrm_zero hy]
  have := rk_asc hx hy
  omega
end DL
namespace DL
open PySem L2
theorem cut_take (xs : List D) (m : Nat) : cutD xs none (some (m : Int)) = xs.take m := by
  unfold cutD
  rw [HT.sIx_nat]
  show (xs.drop 0).take (min m xs.length - 0) = _
  rw [List.drop_zero, Nat.sub_zero, Nat.min_comm, ← List.take_take, List.take_of_length_le (by rw [List.length_take]; omega)]
theorem cut_drop (xs : List D) (m : Nat) : cutD xs (some (m : Int)) none = xs.drop m := by
  unfold cutD
  rw [HT.sIx_nat]
  show (xs.drop (min m xs.length)).take (xs.length - min m xs.length) = _
  rw [List.take_of_length_le (by rw [List.length_drop]; exact Nat.le_refl _)]
  by_cases h : m ≤ xs.length
  · rw [Nat.min_eq_left h]
  · rw [Nat.min_eq_right (by omega), List.drop_length, List.drop_eq_nil_of_le (by omega)]
theorem dedL_len (ps : List Pr) : (dedL ps).length ≤ 2 * ps.length := by
  refine Nat.le_trans ded_len ?_
  rw [List.length_nil, moms_len]
  omega
def Full (qs : List Pr) : Prop := ∀ x ∈ dedL qs, 0 ≤ x ∧ x < ((dedL qs).length : Int)
theorem norm_full {kind : Str} {ns : List Pr} : Full (normF kind ns) := fun x hx => by
  have hn : (dedL (normF kind ns)).length = (dedL ns).length := by rw [dedL_norm, List.length_map]
  rw [hn]
  rw [dedL_norm] at hx
  obtain ⟨u, hu, rfl⟩ := List.mem_map.mp hx
  have hp := List.length_pos_of_mem hu
  exact ⟨Int.emod_nonneg _ (by omega), Int.emod_lt_of_pos _ (by omega)⟩
theorem norm_line {ns : List Pr} (h : ∀ x ∈ ns, prOk "line" x) : ∀ x ∈ normF "line" ns, x.1 < x.2 := fun x hx => by
  unfold normF at hx
  rw [turn_line] at hx
  obtain ⟨p, hp, rfl⟩ := List.mem_map.mp hx
  have m := mem_dedL hp
  refine (nrm_asc p.1 p.2 m.1 m.2).mpr ?_
  have := h p hp
  unfold prOk at this
  rw [if_neg (by decide)] at this
  exact this
theorem norm_ring {ns : List Pr} (h : ∀ x ∈ ns, prOk "ring" x) : ∀ x ∈ normF "ring" ns, x.1 ≠ x.2 := fun x hx => by
  unfold normF at hx
  obtain ⟨p, hp, rfl⟩ := List.mem_map.mp hx
  have m := mem_dedL hp
  have := h p hp
  unfold prOk at this
  rw [if_pos rfl] at this
  exact fun e => this (nrm_inj m.1 m.2 e)
theorem norm_head (p : Pr) (r : List Pr) : ∃ z r', normF "ring" (p :: r) = (0, z) :: r' := by
  unfold normF turnOf
  rw [if_pos rfl, List.map_cons]
  have : nrm (dedL (p :: r)) ((rk (dedL (p :: r)) p.1 : Nat) : Int) p.1 = 0 := by
    unfold nrm
    rw [Int.sub_self, Int.zero_emod]
  show ∃ z r', (nrm (dedL (p :: r)) ((rk (dedL (p :: r)) p.1 : Nat) : Int) p.1, _) :: _ = _
  rw [this]
  exact ⟨_, _, rfl⟩
theorem norm_len (kind : Str) (ns : List Pr) : (normF kind ns).length = ns.length := by unfold normF; rw [List.length_map]
end DL
namespace DL
open PySem PySem.Spec PyProof.Rows L2
def cxS (P : Program) (w : World) (K : PySem.W.Frag) (mg : Str → Option Value) (base : Heap) (N : List Str) (fd : FuncData) (f : Addr) (A : Around) (outer : List Env) (s : Shared) (H : Hp) (E : XK) : Cx where
  prog := P
  w := w
  K := K
  mg := mg
  base := base
  A := A.deeper (callEnv fd s.heap.objs.size f)
  N := N
  s_0 := s
  H_0 := H
  env := callEnv fd s.heap.objs.size f
  outer := outer
  stack := callEnv fd s.heap.objs.size f :: outer
  ex := []
  calm := true
  fn := fun _ => false
  pn := []
  xe := fun e s' => wpAny (model P w) (A.deeper (callEnv fd s.heap.objs.size f)) (leaving (callEnv fd s.heap.objs.size f) e) (fun _ s'' => L2.CX P w outer H s E e s'') (fun e' s'' => L2.CX P w outer H s E e' s'') s'
structure SupF (P : Program) (K : PySem.W.Frag) (mg : Str → Option Value) (C f : Addr) (fd : FuncData) (ps : List Str) : Prop where
  lk : ∃ oc od osl, K.lookup f = some ⟨oc, od, .func fd, osl⟩
  kind : fd.scope.kind = .function
  co : fd.scope.isCoroutine = false
  gen : fd.scope.isGenerator = false
  glob : fd.globals = mainGlobals
  blt : fd.builtins = builtinsNs
  cl : ∃ cc cl cld csl, fd.closure = [(("__class__" : Str), cc)] ∧ K.lookup cc = some ⟨cl, cld, .cell (some (.ref C)), csl⟩
  nd : ps.Nodup
  par : ∀ x ∈ ps, fd.scope.names.lookup x = some .local
  free : ∀ x, fd.scope.names.lookup x = some .free → x = "__class__"
  nocell : ∀ x ∈ fd.scope.names, x.2 ≠ .cell
  sup : fd.scope.names.lookup ("super" : Str) = some .globalImplicit
  cls : fd.scope.names.lookup ("__class__" : Str) = some .free
  mgs : mg "super" = none
  code : PySem.W.codeIn K fd.code fd.qualname = true
  cod : ∃ cda ccl cdd ccs vs file tf, fd.code = .ref cda ∧ K.lookup cda = some ⟨ccl, cdd, .fields vs, ccs⟩ ∧ vs[2]? = some (.str file tf) ∧ ((P.main.file : Str) == file) = true
  top : (P.main.scope.names.lookup ("super" : Str)).isSome = false
  first : ∃ ar, (fd.params.posonlyargs ++ fd.params.args).head? = some ar ∧ ps.head? = some ar.arg
  opq : PySem.W.nsIn K cStatics "thirdparty.any" = some none
  exc : OexC K C
  up : PySem.W.ks_superIn K C C "__init__" = some (some (.builtin "ValueError.__init__"))
  isV : PySem.W.subIn K (.ref C) (.type "ValueError") = some true
  self : PySem.W.mroIn K C (.ref C) = some true
section
variable {P : Program} {w : World} {K : PySem.W.Frag} {mg : Str → Option Value} {base : Heap} {fd : FuncData} {f C : Addr} {A : Around} {outer : List Env} {s : Shared} {H : Hp} {E : XK} {ps : List Str}
theorem inv_startS {us : List Value} {vs : List V} {h₁ : Heap} {tk : Nat} (S : SupF P K mg C f fd ps) (hd : A.handled = none) (e0 : Env0 P w K mg base A outer s H) (hl : vs.length = ps.length) (r : Vals vs us)
    (hns : h₁.Ns s.heap.objs.size fun y => (ps.zip us).reverse.lookup y) (kp : ∀ b o, s.heap.get? b = some o → h₁.get? b = some o) :
    Inv (cxS P w K mg base ps fd f A outer s H E) [] (L2.start ps vs) H { s with heap := h₁, toks := tk } := by
  obtain ⟨cc, cl, cld, csl, ecl, kcc⟩ := S.cl
  have noA : ∀ b : Addr, b ∉ (cxS P w K mg base ps fd f A outer s H E).ex := fun b z => absurd (show b ∈ ([] : List Addr) from z) (by simp)
  have KX : K.In base := e0.mod.kin
  have bcc : base.get? cc = some ⟨cl, cld, .cell (some (.ref C)), csl⟩ := KX _ _ kcc
  have look : ∀ x c, (callEnv fd s.heap.objs.size f).cells.lookup x = some c → x = "__class__" ∧ c = cc := fun x c h => by
    have h : fd.closure.lookup x = some c := h
    rw [ecl] at h
    by_cases e : x = ("__class__" : Str)
    · subst e
      simp [List.lookup] at h
      exact ⟨rfl, h.symm⟩
    · have : (x == ("__class__" : Str)) = false := by simpa using e
      simp [List.lookup, this] at h
  refine ⟨⟨e0.mod, S.kind, S.glob, S.blt, Nat.le_refl _, fun y z c h1 h2 => ?_, fun y hy => ?_, fun y c h _ => (by cases h), fun _ => hd, Around.frames_deeper e0.frames, .inr ⟨rfl, rfl⟩, fun b z => absurd z (noA b), e0.bs, e0.bsz, fun b _ _ => noA b, fun b z => absurd z (noA b), e0.funs, e0.frf⟩,
    rfl, e0.bare, Un.kept kp, ⟨_, hns, fun i y v h1 h2 h3 => ?_⟩, fun y c h => ?_, e0.hok.fresh (Nat.le_refl _), fun y c h => ?_, fun p hp => absurd (show p ∈ ([] : List (Addr × Obj)) from hp) (by simp), e0.hok.kept kp, ?_⟩
  · rw [(look _ _ h1).1, (look _ _ h2).1]
  · have hy : fd.scope.names.lookup y = some .cell ∨ fd.scope.names.lookup y = some .free := hy
    rcases hy with hy | hy
    · exact absurd rfl (S.nocell _ (PySem.mem_of_lookup hy))
    · refine ⟨cc, ?_⟩
      rw [S.free y hy]
      show fd.closure.lookup _ = _
      rw [ecl]
      simp [List.lookup]
  · have h1 : ps[i]? = some y := h1
    unfold L2.start at h2
    have hi : i < vs.length := by
      by_cases hi : i < vs.length
      · exact hi
      · rw [List.getElem?_append_right (by simpa using hi), List.getElem?_replicate] at h2
        split at h2 <;> cases h2
    rw [List.getElem?_append_left (by rw [List.length_map]; exact hi), List.getElem?_map] at h2
    have ha : vs[i]? = some v := by
      cases e : vs[i]? with
      | none => rw [e] at h2; cases h2
      | some a => rw [e] at h2; cases h2; rfl
    obtain ⟨u, hu, rv⟩ := r.get ha
    exact ⟨u, rv, .inl ⟨S.par y (List.mem_of_getElem? h1), NdefX.zip_look S.nd h1 hu⟩⟩
  · rw [(look _ _ h).2]
    exact ⟨_, _, kp _ _ (e0.bs _ _ bcc).1, rfl⟩
  · rw [(look _ _ h).2]
    exact (e0.bs _ _ bcc).2
  · unfold L2.start
    show _ = ps.length
    rw [List.length_append, List.length_map, List.length_replicate]
    omega
theorem super_init {pins : List (Addr × Obj)} {σ : List (Option V)} {s1 : Shared} {H1 : Hp} {a : Addr} {e : Expr} {es : List Expr} {t : TA} {body : List Stmt} {p0 p1 p2 p3 : Pos} {pl : Sem Bool} (S : SupF P K mg C f fd ps)
    (I : Inv (cxS P w K mg base ps fd f A outer s H E) pins σ H1 s1) (h0 : σ[0]? = some (some (.ref a))) (ha : H1 a = some (exo a C none))
    (hargs : PA (cxS P w K mg base ps fd f A outer s H E) (e :: es) t) (hq : t σ H1 fun vs H2 => vs.length ≤ 1000 ∧ H2 = H1)
    {R : Value → Shared → Prop} {X : Value → Shared → Prop} (hR : ∀ s2, Inv (cxS P w K mg base ps fd f A outer s H E) pins σ H1 s2 → R .none s2)
    (hX : ∀ v s2, (cxS P w K mg base ps fd f A outer s H E).xe v s2 → X v s2)
    (he : starEach (e :: es) (callEnv fd s.heap.objs.size f) = (false, eval e (callEnv fd s.heap.objs.size f)) :: starEach es (callEnv fd s.heap.objs.size f) := by rfl) (hpl : (backTo p3 (starEach es (callEnv fd s.heap.objs.size f))).any (·.1) = false := by rfl)
    (hev : eval (.Call (.Attribute (.Call (.Name "super" p0) [] [] p1) "__init__" p2) (e :: es) [] p3) (callEnv fd s.heap.objs.size f) = (do
      let ov ← attributeBase (.Call (.Name "super" p0) [] [] p1) "__init__" (callEnv fd s.heap.objs.size f) (eval (.Call (.Name "super" p0) [] [] p1) (callEnv fd s.heap.objs.size f))
      standAt p2.atName
      let (f', first) ← holding [ov] (getMethod ov "__init__" pl)
      callWith p3 f' first (backTo p3 (starEach (e :: es) (callEnv fd s.heap.objs.size f))) []) := by rfl) :
    PySem.wpAt (model P w) (A.deeper (callEnv fd s.heap.objs.size f)) (.func body (callEnv fd s.heap.objs.size f))
      (eval (.Call (.Attribute (.Call (.Name "super" p0) [] [] p1) "__init__" p2) (e :: es) [] p3) (callEnv fd s.heap.objs.size f)) R X s1 := by
  obtain ⟨oc, od, osl, lk⟩ := S.lk
  obtain ⟨cc, cl, cld, csl, ecl, kcc⟩ := S.cl
  obtain ⟨cda, ccl, cdd, ccs, cvs, file, tf, ecd, kcd, hvs, hfile⟩ := S.cod
  obtain ⟨ar, har, hps⟩ := S.first
  have KX : K.In s1.heap := I.kIn
  have henvF : (callEnv fd s.heap.objs.size f).func = some f := rfl
  obtain ⟨m, hns, hloc⟩ := I.loc
  have hp0 : ps[0]? = some ar.arg := by rw [← List.head?_eq_getElem?]; exact hps
  have lpar := S.par ar.arg (List.mem_of_getElem? hp0)
  obtain ⟨u0, ru0, lu0⟩ := hloc 0 ar.arg (.ref a) hp0 h0 (.inl lpar)
  obtain rfl : u0 = Value.ref a := ru0
  have m0 : m ar.arg = some (.ref a) := by
    rcases lu0 with ⟨_, e⟩ | ⟨k, _⟩
    · exact e
    · have k : fd.scope.names.lookup ar.arg = some .cell ∨ fd.scope.names.lookup ar.arg = some .free := k
      rw [lpar] at k
      rcases k with k | k <;> cases k
  obtain ⟨t1, hx⟩ := exo_at I.hok ha
  obtain ⟨nm, qn, N0, bs, bm, sn, sub, ab, col, dd, k0, k1, k2, k3, k5, hC, hbm⟩ := S.exc.cls
  have hcd : PySem.W.clsIn K C = some { name := nm, bases := bs, mro := .ref C :: bm, ns := N0, qualname := qn, hasDict := true, slotNames := sn, subclasses := sub, abstract := ab, collection := col, hasDel := false } := by unfold PySem.W.clsIn; rw [hC]
  obtain ⟨hp, g, d, tk, os⟩ := s1
  refine PySem.ks_wpAt_MethodCall (pl := pl) ?_ hev
  refine PySem.ks_wpAt_super_base (f := f) (cc := cda) S.sup S.cls (by decide) rfl (KX _ _ lk) rfl har (by show fd.code = _; exact ecd) (KX _ _ kcd) rfl hvs hfile S.top ?_
  obtain ⟨mb, b1, b2⟩ := I.mod.blt
  refine PySem.W.ks_loadName_global S.kind S.sup (PySem.Calls.loadGlobal_builtin (by show hp.Ns fd.globals mg; rw [S.glob]; exact I.mod.glob.keeps I.bk) S.mgs (by show hp.Ns fd.builtins mb; rw [S.blt]; exact b1.keeps I.bk) ((b2 _ (by decide)).trans PyProof.Rows.Boot.«super») ⟨rfl, ?_⟩)
  refine wpAny_loadName_free S.kind S.cls (by show fd.closure.lookup _ = some cc; rw [ecl]; rfl) ⟨_, KX _ _ kcc, rfl⟩ ?_
  refine wpAny_loadName_local S.kind lpar hns m0 ?_
  have hCo : hp.get? C = some (excClassObj nm qn C N0 bs bm true sn sub ab col dd k0 k1 k2 k3 k5 "ValueError.__new__") := KX _ _ hC
  refine PySem.ks_wpAny_isType_cls hCo rfl ⟨rfl, ?_⟩
  refine PySem.ks_wpAny_call_super hCo rfl hx rfl (fun c z => by cases z) (PySem.W.looks_mroIn KX S.self) fun h1 e1 kp1 => ?_
  have I1 : Inv (cxS P w K mg base ps fd f A outer s H E) pins σ H1 ⟨h1, g, d, tk, os⟩ := I.kept kp1
  have IA : PySem.W.InstAt h1 a { cls := .ref C, dict := none, data := .fields #[.ref t1, .none, .none, .none, .bool false, .none] } C none := ⟨kp1 _ _ hx, rfl, rfl, trivial⟩
  have up := S.up
  unfold PySem.W.ks_superIn at up
  rw [hcd, Option.bind_some] at up
  refine PySem.W.kxs_getMethod PySem.W.kxs_ValueError e1 (PySem.W.looks_opaque I1.kIn S.opq) (l₀ := .ref C :: bm) ?_ rfl I1.kIn up (IA.type.andThen (PySem.W.looks_subIn I1.kIn S.isV)) (PySem.W.ks_ne I1.kIn IA hcd) (by decide) ?_
  · exact fun A Q E s k q => wpAny_bind ((PySem.W.looks_clsIn I1.kIn hcd) A _ E s k (wpAny_pure q))
  have kp2 : ∀ b o, h1.get? b = some o → (h1.push (PySem.W.kxs_mw "ValueError.__init__" a)).get? b = some o := fun b o e => Heap.get?_push_of_some _ e
  have gu : (h1.push (PySem.W.kxs_mw "ValueError.__init__" a)).get? h1.objs.size = some (PySem.W.kxs_mw "ValueError.__init__" a) := Heap.get?_push_at rfl rfl
  have I2 : Inv (cxS P w K mg base ps fd f A outer s H E) pins σ H1 ⟨h1.push (PySem.W.kxs_mw "ValueError.__init__" a), g, d, tk + 1, os⟩ := I1.kept (t' := tk + 1) kp2
  have I3 : Inv (cxS P w K mg base ps fd f A outer s H E) ((h1.objs.size, PySem.W.kxs_mw "ValueError.__init__" a) :: pins) σ H1 ⟨h1.push (PySem.W.kxs_mw "ValueError.__init__" a), g, d, tk + 1, os⟩ := I2.pins_of fun p hp => by
    rcases List.mem_cons.mp hp with rfl | hp
    · exact ⟨gu, I1.hok.fresh (Nat.le_refl _), fun z => by
        have := I1.lt
        rw [← z] at this
        exact absurd this (Nat.lt_irrefl _), I1.nofs (Nat.le_refl _), fun v z => by cases z⟩
    · exact I2.pin p (List.mem_append_right _ hp)
  show wpAny _ _ (callWith p3 (.ref h1.objs.size) [] (backTo p3 (starEach (e :: es) (callEnv fd s.heap.objs.size f))) []) _ _ _
  rw [he]
  refine PySem.W.kxs_callWith (i := "ValueError.__init__") (x := a) (by show (false || (backTo p3 (starEach es (callEnv fd s.heap.objs.size f))).any (·.1)) = false; rw [hpl]; rfl) ?_
  refine PySem.Calls.evalArgs_plain ?_
  have hrun := hargs.run p3 _ _ σ H1 _ I3 hq
  rw [show (cxS P w K mg base ps fd f A outer s H E).env = callEnv fd s.heap.objs.size f from rfl, he] at hrun
  refine wpAny_mono hrun (fun us s4 hh => ?_) (fun v s4 hv => hX v s4 hv)
  obtain ⟨vs, H4, I4, rv, hz, eH⟩ := hh
  subst eH
  have pu := I4.pin (h1.objs.size, PySem.W.kxs_mw "ValueError.__init__" a) (List.mem_append_right _ List.mem_cons_self)
  refine ⟨pu.1, ?_⟩
  obtain ⟨t4, hx4⟩ := exo_at I4.hok ha
  obtain ⟨hp4, g4, d4, tk4, os4⟩ := s4
  have hC4 : hp4.get? C = some (excClassObj nm qn C N0 bs bm true sn sub ab col dd k0 k1 k2 k3 k5 "ValueError.__new__") := I4.kIn _ _ hC
  have hul : us.length ≤ sizeLine := by
    rw [← Paired.length rv, sizeLine_eq]
    omega
  refine wpAny_call (codeAny_of_tree ?_)
  show wpAny _ (A.deeper (callEnv fd s.heap.objs.size f)).in1 (callAny (.ref h1.objs.size) ⟨us, []⟩) _ _ _
  simp only [callAny]
  refine wpAny_bind (wpAny_load pu.1 ?_)
  simp only [PySem.W.kxs_mw, show (Value.type "method-wrapper" == Value.type "method" || Value.type "method-wrapper" == Value.type "builtin_function_or_method" || Value.type "method-wrapper" == Value.type "method-wrapper") = true by decide, if_true]
  refine PySem.W.KFB.if_so (by decide) ?_
  refine wpAny_bind (PySem.W.check_bound_init PySem.F.excBase_ValueError.toExcCallFacts hC4 hx4 rfl ?_)
  refine wpAny_bind (wpAny_pure (wpAny_pure ?_))
  refine ⟨plainId_quiet PySem.F.excBase_ValueError.init.plain _, codeAny_builtin PySem.F.excBase_ValueError.initEntry ?_⟩
  refine PySem.W.exc_init_tree (cls := .ref C) (t0 := t4) (dv := none) (c2 := .none) (c3 := .none) (b4 := .bool false) hx4 hul fun h5 k5' g5 _ => ?_
  have J := I4.write (t' := tk4) (x := a) (e := a) (o := exo a C none) (by rw [ha]; exact True.intro) (.inl rfl) k5' ⟨_, g5⟩ (exo_ok g5)
  have eu : upd H4 a (exo a C none) = H4 := by
    funext b
    by_cases hb : b = a
    · rw [hb, upd_same, ha]
    · rw [upd_ne hb]
  rw [eu] at J
  exact hR _ (J.pins_of fun p hp => J.pin p (List.mem_append_right _ (List.mem_cons_of_mem _ (hp))))
def spSup (C : Addr) (n : Nat) (tr : TS) (ps : List Str) : Sp := fun vs H Q _ => vs.length = ps.length ∧ ∃ (a : Addr) (ws : List V), vs = .ref a :: ws ∧ ws.length = n ∧ n ≤ 1000 ∧ H a = some (exo a C none) ∧ tr { nx := fun _ H' => Q .non H', rt := Q } (L2.start ps vs) H
theorem fn_sup {n k : Nat} {tr : TS} {e : Expr} {es rest : List Expr} {stms : List Stmt} {p0 p1 p2 p3 p4 : Pos} {pl : Nat → Sem Bool} {t : TA} (S : SupF P K mg C f fd ps)
    (hbody : fd.body = .stmts (.Expr (.Call (.Attribute (.Call (.Name "super" p0) [] [] p1) "__init__" p2) (e :: es) [] p3) p4 :: stms))
    (hargs : ∀ (A : Around) (outer : List Env) (s : Shared) (H : Hp) (E : XK), PA (cxS P w K mg base ps fd f A outer s H E) (e :: es) t)
    (hread : ∀ (a : Addr) (ws : List V) (H : Hp), ws.length = n → t (L2.start ps (.ref a :: ws)) H fun vs H2 => vs.length ≤ 1000 ∧ H2 = H)
    (hrest : ∀ (A : Around) (outer : List Env) (s : Shared) (H : Hp) (E : XK), PSs (cxS P w K mg base ps fd f A outer s H E) stms tr)
    (hsw : ∀ L, swapsWith (.Call (.Attribute (.Call (.Name "super" p0) [] [] p1) "__init__" p2) (e :: es) [] p3) none p4.line (callEnv fd L f) = pure false := by intro L; rfl)
    (he : ∀ L, starEach (e :: es) (callEnv fd L f) = (false, eval e (callEnv fd L f)) :: starEach es (callEnv fd L f) := by intro L; rfl) (hpl : ∀ L, (backTo p3 (starEach es (callEnv fd L f))).any (·.1) = false := by intro L; rfl)
    (hev : ∀ L, eval (.Call (.Attribute (.Call (.Name "super" p0) [] [] p1) "__init__" p2) (e :: es) [] p3) (callEnv fd L f) = (do
      let ov ← attributeBase (.Call (.Name "super" p0) [] [] p1) "__init__" (callEnv fd L f) (eval (.Call (.Name "super" p0) [] [] p1) (callEnv fd L f))
      standAt p2.atName
      let (f', first) ← holding [ov] (getMethod ov "__init__" (pl L))
      callWith p3 f' first (backTo p3 (starEach (e :: es) (callEnv fd L f))) []) := by intro L; rfl) :
    FnOk P w K mg base (L2.CX P w) (k + 1) f fd ps (spSup C n tr ps) := by
  refine ⟨fun vs H Q E q => q.1, fun A outer s H args us vs Q E hr e0 hb r hsp => ?_⟩
  obtain ⟨hl, a, ws, rfl, hn, hn2, ha, hq⟩ := hsp
  obtain ⟨oc, od, osl, lk⟩ := S.lk
  have KX : K.In s.heap := e0.mod.kin.keeps fun b o e => (e0.bs b o e).1
  have lim : s.heap.NoLimit := e0.mod.nolimit.keeps fun b o e => (e0.bs b o e).1
  refine PySem.ks_codeAny_call_defAt hr.depth (KX _ _ lk) rfl lim (PySem.W.codeRec_of KX S.code) hbody hb S.nocell (fun y hy => ?_) (fun h₁ hns kp => ?_) S.co S.gen S.kind
  · obtain ⟨y1, y2⟩ := y
    exact S.par y1 (List.of_mem_zip hy).1
  have I := inv_startS (E := E) (tk := s.toks + (ps.zip us).length) S hr.hd e0 hl r hns kp
  refine PySem.ks_wpAt_execs_cons ?_
  refine PySem.ks_wpAt_Expr_any ?_ (by simp [interactive, callEnv, newEnv, S.kind]) (hsw _)
  refine super_init S I rfl ha (hargs A outer s H E) (hread a ws H hn) (fun s2 J => ?_) (fun v s2 hv => ?_) (he _) (hpl _) (hev _)
  · show PySem.wpAt _ _ _ (execs stms _) _ _ _
    refine PySem.wpAt_of_wpAny ?_
    refine wpAny_mono ((hrest A outer s H E).run [] s2 _ H _ J hq) (fun fl s' hs => ?_) fun v s' hv => ?_
    · have fin : ∀ {σ' : List (Option V)} {H' : Hp} {v : V} {u : Value}, Inv (cxS P w K mg base ps fd f A outer s H E) [] σ' H' s' → RelV v u → Q v H' → CE outer P w H s Q u s' :=
        fun {σ' H' v u} J rv q => ⟨v, H', J.os, J.bare, J.base, J.hok, rv, q⟩
      cases fl with
      | ret u =>
        obtain ⟨v, σ', H', J, rv, q⟩ := hs
        exact fin J rv q
      | next =>
        obtain ⟨σ', H', J, q⟩ := hs
        exact fin (v := V.non) (u := Value.none) J rfl q
      | brk =>
        obtain ⟨_, _, _, q⟩ := hs
        exact False.elim q
      | cont =>
        obtain ⟨_, _, _, q⟩ := hs
        exact False.elim q
    · exact hv
  · exact hv
end
def dRaise (cls : Str) (fs : List Str) (E : ER) (t : AD) : SD := fun _ σ h => t σ h fun ds h1 => ds.length = fs.length ∧ E ⟨cls, (fs.zip ds).reverse⟩ σ h1
def trInit1 (K : PySem.W.Frag) (f1 : Str) : TS := tSeq (tOst K f1 (L2.tVar 0) (L2.tVar 1)) tNext
def trInit2 (K : PySem.W.Frag) (f1 f2 : Str) : TS := tSeq (tOst K f1 (L2.tVar 0) (L2.tVar 1)) (tSeq (tOst K f2 (L2.tVar 0) (L2.tVar 2)) tNext)
structure ExK (P : Program) (w : World) (K : PySem.W.Frag) (mg : Str → Option Value) (base : Heap) (x : Str) (fs : List Str) (C : Addr) : Prop where
  oex : OexC K C
  mgx : mg x = some (.ref C)
  no : ∀ f ∈ fs, PySem.W.findIn K (.ref C) f = some none
  nd : fs.Nodup
  ini : ∃ (fI : Addr) (fd : FuncData) (ps : List Str) (tr : TS), PySem.W.findIn K (.ref C) "__init__" = some (some (.ref fI)) ∧ PySem.W.typeIn K (.ref fI) = some (.type "function") ∧ Binds K fd ps [] ∧ ps.length = fs.length + 1 ∧
    (∀ k, FnOk P w K mg base (L2.CX P w) (k + 1) fI fd ps (spSup C fs.length tr ps)) ∧
    ((∃ f1, fs = [f1] ∧ tr = trInit1 K f1) ∨ ∃ f1 f2, fs = [f1, f2] ∧ tr = trInit2 K f1 f2)
theorem raise_heap {H1 : Hp} {a dx C : Addr} {fs : List (Str × V)} {o : HO} (hn : H1 a = none) (hd : dx ≠ a) : upd (del (upd (upd (upd H1 a o) dx (exd dx fs)) a (exo a C (some dx))) a) dx (.xd fs) = upd H1 dx (.xd fs) := by
  funext b
  by_cases hb : b = dx
  · subst hb; rw [upd_same, upd_same]
  · rw [upd_ne hb, upd_ne hb]
    by_cases ha : b = a
    · subst ha; rw [del_same, hn]
    · rw [del_ne ha, upd_ne ha, upd_ne hb, upd_ne ha]
theorem raise_heap2 {H1 : Hp} {a dx C : Addr} {fs gs : List (Str × V)} {o : HO} (hn : H1 a = none) (hd : dx ≠ a) : upd (del (upd (upd (upd (upd H1 a o) dx (exd dx gs)) a (exo a C (some dx))) dx (exd dx fs)) a) dx (.xd fs) = upd H1 dx (.xd fs) := by
  funext b
  by_cases hb : b = dx
  · subst hb; rw [upd_same, upd_same]
  · rw [upd_ne hb, upd_ne hb]
    by_cases ha : b = a
    · subst ha; rw [del_same, hn]
    · rw [del_ne ha, upd_ne hb, upd_ne ha, upd_ne hb, upd_ne ha]
section
variable {X : Cx} {B : Bs} {E : ER} {x : Str} {fs : List Str} {C : Addr} {e : Expr} {es : List Expr} {t : AD} {p pos pos' : Pos} {k : Nat}
theorem ds_raise (T : ExK X.prog X.w X.K X.mg X.base x fs C) (rg : Rg X B E) (hr : Room k X.A) (hk : 2 ≤ k) (ha : DA X B (e :: es) t) (hg : Gl X x := by rfl)
    (hdb : (x == ("__debug__" : Str)) = false := by decide) (he : starEach (e :: es) X.env = (false, eval e X.env) :: starEach es X.env := by rfl) (hpl : (backTo pos (starEach es X.env)).any (·.1) = false := by rfl) :
    DS X B (.Raise (some (.Call (.Name x p) (e :: es) [] pos)) none pos') (dRaise x fs E t) := by
  obtain ⟨W, tk, re⟩ := rg.tk
  obtain ⟨fI, fd, ps, tr, iC, tI, hb, hpsl, F, hsh⟩ := T.ini
  have mk := pmk_oex (x := x) (p := p) (pos := pos) (X := X) T.oex iC tI (F 0) (hr.mono hk) hb .nil passL hg T.mgx ha hdb he hpl
  refine ⟨fun pins s σV H DV I hh => (ps_raise rg.calm tk mk).run pins s σV H DV I ?_⟩
  obtain ⟨σ, h, D, r0, q, o⟩ := hh
  refine ⟨σ, h, _, r0, q, fun ds h1 vs H1 q1 g1 rp1 hl => ?_⟩
  obtain ⟨hds, ex⟩ := q1
  have vl : vs.length = fs.length := by rw [← rp1.length, hds]
  -- the exception at hand
  have out : ∀ (dx : Addr) (ws : List (Str × V)), H1 dx = none → RpK X.gv H1 (fs.zip ds).reverse ws → (fs ≠ []) → W (.ref C) (some dx) σV (upd H1 dx (.xd ws)) := fun dx ws hd hw _ => by
    have g2 : Go X.gv H1 h1 (upd H1 dx (.xd ws)) h1 := Go.hid g1.rh hd
    exact re _ σ h1 _ _ σV _ ex ((r0.next g1).next g2) ⟨T.mgx, .inr ⟨dx, ws, rfl, upd_same, hw.stb g2.st⟩⟩
  rcases hsh with ⟨f1, rfl, rfl⟩ | ⟨f1, f2, rfl, rfl⟩
  · obtain ⟨y, rfl⟩ : ∃ y, vs = [y] := by
      match vs, vl with
      | [y], _ => exact ⟨y, rfl⟩
    refine ⟨by show 1 ≤ 1000; decide, fun a hn => ⟨by show 2 = ps.length; rw [hpsl]; rfl, a, [y], rfl, rfl, by show 1 ≤ 1000; decide, upd_same, ?_⟩⟩
    refine ⟨y, rfl, .ref a, rfl, a, C, rfl, T.oex, T.no f1 List.mem_cons_self, .inl ⟨upd_same, fun dx hd hda => ?_⟩⟩
    rw [upd_ne hda] at hd
    refine ⟨rfl, dx, [(f1, y)], upd_same, by rw [upd_ne hda]; exact upd_same, hd, ?_⟩
    rw [raise_heap hn hda]
    refine out dx _ hd ?_ (by simp)
    match ds, hds, rp1 with
    | [d], _, .cons r .nil => exact .cons ⟨rfl, r⟩ .nil
  · obtain ⟨y, z, rfl⟩ : ∃ y z, vs = [y, z] := by
      match vs, vl with
      | [y, z], _ => exact ⟨y, z, rfl⟩
    refine ⟨by show 2 ≤ 1000; decide, fun a hn => ⟨by show 3 = ps.length; rw [hpsl]; rfl, a, [y, z], rfl, rfl, by show 2 ≤ 1000; decide, upd_same, ?_⟩⟩
    refine ⟨y, rfl, .ref a, rfl, a, C, rfl, T.oex, T.no f1 List.mem_cons_self, .inl ⟨upd_same, fun dx hd hda => ?_⟩⟩
    rw [upd_ne hda] at hd
    refine ⟨z, rfl, .ref a, rfl, a, C, rfl, T.oex, T.no f2 (List.mem_cons_of_mem _ List.mem_cons_self), .inr ⟨dx, [(f1, y)], upd_same, by rw [upd_ne hda]; exact upd_same, by show 1 ≤ 900; decide, ?_⟩⟩
    refine ⟨rfl, dx, [(f2, z), (f1, y)], by rw [upd_ne hda.symm]; exact upd_same, upd_same, hd, ?_⟩
    rw [raise_heap2 hn hda]
    refine out dx _ hd ?_ (by simp)
    match ds, hds, rp1 with
    | [d, d2], _, .cons r (.cons r2 .nil) => exact .cons ⟨rfl, r2⟩ (.cons ⟨rfl, r⟩ .nil)
end
end DL
namespace DL
open PySem PySem.Spec PyProof.Rows L2
abbrev SuiteV := Addr → Value → Option Addr → TS
def dropI (i : Option Nat) (D : Ends) : Ends := match i with
  | none => D
  | some i => { nx := fun z G => D.nx (z.set i none) G, rt := D.rt, bk := fun z G => D.bk (z.set i none) G, ct := fun z G => D.ct (z.set i none) G }
def keepI (i : Option Nat) (σ : List (Option V)) (a : Addr) : List (Option V) := match i with
  | none => σ
  | some i => σ.set i (some (.ref a))
def wMix (K : PySem.W.Frag) (out : WX) (D : Ends) : List (Value × Option Nat × SuiteV) → WX
  | [] => out
  | (c, i, ts) :: more => fun k dd z G => ∃ hit, PySem.W.exmOne K k c = some hit ∧ (hit = true → ∀ ea, G ea = none → ts ea k dd (dropI i D) (keepI i z ea) G) ∧ (hit = false → wMix K out D more k dd z G)
inductive Clauses (X : Cx) : List ExceptHandler → List (Value × Option Nat × SuiteV) → Prop
  | nil : Clauses X [] []
  | plain {nm : Str} {c : Value} {ts : SuiteV} {st0 : Stmt} {sts : List Stmt} {p1 p2 : Pos} {more : List ExceptHandler} {ws : List (Value × Option Nat × SuiteV)} (known : Names X nm c)
      (walk : ∀ (ea : Addr) (eo : Obj) (k : Value) (dd : Option Addr) (pl : List (Addr × Obj)), Zc k dd eo → (∃ us, eo.data = .fields us) → PSs (X.suite ea ((ea, eo) :: pl)) (st0 :: sts) (ts ea k dd)) (tail : Clauses X more ws) :
      Clauses X (.ExceptHandler (some (.Name nm p1)) none (st0 :: sts) p2 :: more) ((c, none, ts) :: ws)
  | named {nm v : Str} {c : Value} {i : Nat} {ts : SuiteV} {st0 : Stmt} {sts : List Stmt} {p1 p2 : Pos} {more : List ExceptHandler} {ws : List (Value × Option Nat × SuiteV)} (known : Names X nm c) (slot : X.N[i]? = some v) (loc : X.env.kindOf v = some .local)
      (walk : ∀ (ea : Addr) (eo : Obj) (k : Value) (dd : Option Addr) (pl : List (Addr × Obj)), Zc k dd eo → (∃ us, eo.data = .fields us) → PSs (X.suite ea ((ea, eo) :: pl)) (st0 :: sts) (ts ea k dd)) (tail : Clauses X more ws) :
      Clauses X (.ExceptHandler (some (.Name nm p1)) (some v) (st0 :: sts) p2 :: more) ((c, some i, ts) :: ws)
section
variable {X : Cx} {body : List Stmt} {first : ExceptHandler} {others : List ExceptHandler} {ws : List (Value × Option Nat × SuiteV)} {at_ : Pos} {tb : WX → TS} {out : WX}
theorem ps_try_mix (hstk : X.stack = X.env :: X.outer) (hfrm : X.env.frame = some X.env.locals) (hnd : X.N.Nodup) (hout : Takes X out)
    (hwalk : ∀ (W : WX) (pl : List (Addr × Obj)) (xe : Value → Shared → Prop), Takes (X.tr pl xe) W → PassesOwn (model X.prog X.w) X.A X.env xe → PSs (X.tr pl xe) body (tb W))
    (hcl : Clauses X (first :: others) ws) : PS X (.Try body (first :: others) [] [] at_) (fun D z G => tb (wMix X.K out D ws) D z G) := by
  refine ⟨fun pins s z G D I0 hh => ?_⟩
  have okX := I0.ok
  have frm : X.A.frames = some (X.env :: X.outer) := by rw [okX.frames, hstk]
  refine wpAny_Try_except ?_
  refine wpAny_mono ((hwalk (wMix X.K out D ws) (X.pn ++ pins) (fun ev u1 => wpAny (model X.prog X.w) X.A (noteFrame ev X.env) (fun _ u2 => wpAny (model X.prog X.w) X.A (setFlight ev none)
    (fun _ u3 => wpAny (model X.prog X.w) X.A (handleBy ev X.env (first :: others)) (SP X pins D) X.xe u3) X.xe u2) X.xe u1) (fun ev u got => ?_) PassesOwn.looking).run [] s z G D (I0.toTry _) hh) (fun fl u hsp => ?_) (fun ev u hv => hv)
  · -- caught
    obtain ⟨ea, Bh, uI, pins2, z2, G2, k, dd, rfl, IT, nobj, upto, air, free, osq, barq, wish⟩ := got
    have IX : Inv X pins z2 G2 uI := IT.ofTry okX
    have air2 : Sky Bh (X.env :: X.outer) ea (Zc k dd) X.env.locals u.heap := by rw [← hstk]; exact air
    show wpAny (model X.prog X.w) X.A (noteFrame (.ref ea) X.env) _ _ _
    refine Sky.land Zc.steady frm hfrm air2 fun hp3 fly3 upto3 => ?_
    have I3 : Inv X pins z2 G2 { u with heap := hp3 } := IX.landed nobj fly3.1 (upto.trans upto3) osq barq
    obtain ⟨eo3, us3, ge3, gz3, gd3⟩ := fly3.there
    have nofrm : ea ∉ frs (X.env :: X.outer) := fun hm => by
      obtain ⟨_, ob, eo, nof⟩ := fly3.2.2.1.mem hm
      rw [ge3] at eo
      cases eo
      exact nof _ gd3
    have nloc : ea ≠ X.env.locals := fun e => nofrm (List.mem_filterMap.mpr ⟨X.env, List.mem_cons_self, by rw [hfrm, e]⟩)
    have nout : ea ∉ X.fs := fun hm => by
      obtain ⟨ev, hv, q⟩ := List.mem_filterMap.mp hm
      exact nofrm (List.mem_filterMap.mpr ⟨ev, List.mem_cons_of_mem _ hv, q⟩)
    have IS3 := I3.suite ge3 gd3 free nloc nout
    have asked : ∀ {nm : Str} {c : Value} {np : Pos} {hit : Bool} {Q : Value → Shared → Prop} {E : Value → Shared → Prop}, Names X nm c → Q c { u with heap := hp3 } → wpAny (model X.prog X.w) (X.A.mark (some (.ref ea))) (eval (.Name nm np) X.env) Q E { u with heap := hp3 } := fun {nm c np hit Q E} known q => by
      obtain ⟨hg, hdb, hm | ⟨hm, hv, hnn⟩⟩ := known
      · exact ld_glob (X := X.suite ea ((ea, eo3) :: (X.pn ++ pins))) IS3 hg hm q hdb
      · exact ld_blt (X := X.suite ea ((ea, eo3) :: (X.pn ++ pins))) IS3 hg hm hv q hnn hdb
    have looksT : PySem.W.Looks (model X.prog X.w) hp3 (typeOf (.ref ea)) k := fun A Q E u5 kp q => wpAny_typeOf_ref (kp _ _ ge3) (by rw [gz3.1]; exact q)
    have go : ∀ {hl : List ExceptHandler} {wl : List (Value × Option Nat × SuiteV)}, Clauses X hl wl → wMix X.K out D wl k dd z2 G2 → wpAny (model X.prog X.w) X.A (handleBy (.ref ea) X.env hl) (SP X pins D) X.xe { u with heap := hp3 } := by
      intro hl wl hc
      induction hc with
      | nil =>
        intro wish
        refine wpAny_handleBy_nil ?_
        obtain ⟨f1, f2, f3, eo, us, T, oT, ts', ge, gz, gd, h1, hr⟩ := id fly3
        unfold PySem.passOn
        refine wpAny_bind (wpAny_field ge gd h1 ?_)
        rw [if_neg (show ¬ ((Value.ref T == Value.none) = true) from (by simp))]
        have away : wpAny (model X.prog X.w) X.A (setFlight (.ref ea) X.env.frame) (fun _ u4 => wpAny (model X.prog X.w) X.A (throw (.ref ea) : Sem Flow) (SP X pins D) X.xe u4) X.xe { u with heap := hp3 } := by
          rw [hfrm]
          exact HandSPX.setFlight_upZ fly3 fun hp4 held4 upto4 => wpAny_throw (hout _ _ ⟨ea, Bh, uI, pins, z2, G2, k, dd, rfl, IX, nobj, (upto.trans upto3).trans upto4, .inr (.inr (by rw [hstk]; exact held4)), free, osq, barq, wish⟩)
        first
          | exact wpAny_bind (wpAny_pure (wpAny_bind away))
          | exact wpAny_bind away
      | @plain nm c ts st0 sts p1 p2 more ws2 known walk tail ih =>
        intro wish
        obtain ⟨hit, eh, yes, no⟩ := wish
        refine wpAny_handleBy_cons (codeAny_handlers_test ?_) (by intro q; cases q)
        refine asked (hit := hit) known ((PySem.W.exm_one (M := model X.prog X.w) (I3.kIn) looksT eh).here ?_)
        cases hit with
        | true =>
          refine codeAny_handlers_suite ?_
          refine HandSPX.lands_againZ fly3 fun hp4 fly4 upto4 => ?_
          have I4 : Inv X pins z2 G2 { u with heap := hp4 } := IX.landed nobj fly4.1 ((upto.trans upto3).trans upto4) osq barq
          obtain ⟨eo4, us4, ge4, gz4, gd4⟩ := fly4.there
          refine wpAny_mono ((walk ea eo4 k dd (X.pn ++ pins) gz4 ⟨_, gd4⟩).run [] _ _ G2 _ (I4.suite ge4 gd4 free nloc nout) (yes rfl ea free)) (fun fl u6 hsp => ?_) (fun _ _ q => False.elim q)
          cases fl with
          | ret rv =>
            obtain ⟨v6, z6, G6, I6, r6, q6⟩ := hsp
            exact ⟨_, _, _, I6.unsuite okX, r6, q6⟩
          | _ =>
            obtain ⟨z6, G6, I6, q6⟩ := hsp
            exact ⟨_, _, I6.unsuite okX, q6⟩
        | false => exact ih (no rfl)
      | @named nm v c i ts st0 sts p1 p2 more ws2 known slot loc walk tail ih =>
        intro wish
        obtain ⟨hit, eh, yes, no⟩ := wish
        refine wpAny_handleBy_cons (codeAny_handlers_test ?_) (by intro q; cases q)
        refine asked (hit := hit) known ((PySem.W.exm_one (M := model X.prog X.w) (I3.kIn) looksT eh).here ?_)
        cases hit with
        | true =>
          refine codeAny_handlers_suite_as ?_
          refine HandSPX.lands_againZ fly3 fun hp4 fly4 upto4 => ?_
          have I4 : Inv X pins z2 G2 { u with heap := hp4 } := IX.landed nobj fly4.1 ((upto.trans upto3).trans upto4) osq barq
          obtain ⟨eo4, us4, ge4, gz4, gd4⟩ := fly4.there
          refine store_ok (X := X.suite ea ((ea, eo4) :: (X.pn ++ pins))) (v := .ref ea) (I4.suite ge4 gd4 free nloc nout) hnd slot (.inl loc) rfl (fun u5 I5 => ?_) (.inr loc)
          refine wpAny_mono ((walk ea eo4 k dd (X.pn ++ pins) gz4 ⟨_, gd4⟩).run [] u5 _ G2 _ I5 (yes rfl ea free)) (fun fl u6 hsp => ?_) (fun _ _ q => False.elim q)
          cases fl with
          | ret rv =>
            obtain ⟨v6, z6, G6, I6, r6, q6⟩ := hsp
            exact gone_ok (I6.unsuite okX) hnd slot loc fun u7 I7 => ⟨_, _, _, I7, r6, q6⟩
          | _ =>
            obtain ⟨z6, G6, I6, q6⟩ := hsp
            exact gone_ok (I6.unsuite okX) hnd slot loc fun u7 I7 => ⟨_, _, I7, q6⟩
        | false => exact ih (no rfl)
    exact go hcl wish
  · cases fl with
    | next =>
      obtain ⟨z6, G6, I6, q⟩ := hsp
      exact wpAny_execs_nil ⟨z6, G6, I6.ofTry okX, q⟩
    | ret rv =>
      obtain ⟨v6, z6, G6, I6, r6, q⟩ := hsp
      exact ⟨v6, z6, G6, I6.ofTry okX, r6, q⟩
    | _ =>
      obtain ⟨z6, G6, I6, q⟩ := hsp
      exact ⟨z6, G6, I6.ofTry okX, q⟩
end
abbrev HndD := Str × Option Nat × (Addr → XD → SD)
def dropD (i : Option Nat) (D : EndsD) : EndsD := match i with
  | none => D
  | some i => { nx := fun σ h => D.nx (σ.set i none) h, rt := D.rt, bk := fun σ h => D.bk (σ.set i none) h, ct := fun σ h => D.ct (σ.set i none) h }
def keepD (i : Option Nat) (σ : Sd) (a : Addr) : Sd := match i with
  | none => σ
  | some i => σ.set i (some (.v (.ref a)))
def hE (tab : Str → Str → Option Bool) (E : ER) (D : EndsD) : List HndD → ER
  | [] => E
  | (c, i, ts) :: r => fun x σ h => ∃ b, tab x.cls c = some b ∧ (b = true → ∀ a, h a = none → ts a x (dropD i D) (keepD i σ a) h) ∧ (b = false → hE tab E D r x σ h)
def dTry (b : ER → SD) (tab : Str → Str → Option Bool) (hs : List HndD) (E : ER) : SD := fun D σ h => b (hE tab E D hs) D σ h
def NmV (mg : Str → Option Value) (n : Str) (u : Value) : Prop := (n == ("__debug__" : Str)) = false ∧ (mg n = some u ∨ (mg n = none ∧ bootBuiltins n = some u ∧ n ≠ "__name__"))
def suiteV (G : Gv) (ts : Addr → XD → SD) : SuiteV := fun a k dd DV σV H => ∃ x σ h D, RelS G H σ σV ∧ RelH G H h ∧ RelX G H x k dd ∧ ts a x D σ h ∧ OutS G H h D DV
inductive ClausesD (X : Cx) (tab : Str → Str → Option Bool) : List ExceptHandler → List HndD → Prop
  | nil : ClausesD X tab [] []
  | plain {nm : Str} {ts : Addr → XD → SD} {st0 : Stmt} {sts : List Stmt} {p1 p2 : Pos} {more : List ExceptHandler} {hs : List HndD} (known : ∃ u, NmV X.mg nm u ∧ ∀ n b k, tab n nm = some b → X.mg n = some k → PySem.W.exmOne X.K k u = some b)
      (walk : ∀ (ea : Addr) (eo : Obj) (k : Value) (dd : Option Addr) (pl : List (Addr × Obj)), Zc k dd eo → (∃ us, eo.data = .fields us) → ∀ (x : XD) (B : Bs), RelH X.gv B.H B.h → RelX X.gv B.H x k dd → DSs (X.suite ea ((ea, eo) :: pl)) B (st0 :: sts) (ts ea x))
      (tail : ClausesD X tab more hs) (gl : Gl X nm := by rfl) : ClausesD X tab (.ExceptHandler (some (.Name nm p1)) none (st0 :: sts) p2 :: more) ((nm, none, ts) :: hs)
  | named {nm v : Str} {i : Nat} {ts : Addr → XD → SD} {st0 : Stmt} {sts : List Stmt} {p1 p2 : Pos} {more : List ExceptHandler} {hs : List HndD} (known : ∃ u, NmV X.mg nm u ∧ ∀ n b k, tab n nm = some b → X.mg n = some k → PySem.W.exmOne X.K k u = some b)
      (walk : ∀ (ea : Addr) (eo : Obj) (k : Value) (dd : Option Addr) (pl : List (Addr × Obj)), Zc k dd eo → (∃ us, eo.data = .fields us) → ∀ (x : XD) (B : Bs), RelH X.gv B.H B.h → RelX X.gv B.H x k dd → DSs (X.suite ea ((ea, eo) :: pl)) B (st0 :: sts) (ts ea x))
      (tail : ClausesD X tab more hs) (slot : X.N[i]? = some v := by rfl) (loc : X.env.kindOf v = some .local := by rfl) (gl : Gl X nm := by rfl) : ClausesD X tab (.ExceptHandler (some (.Name nm p1)) (some v) (st0 :: sts) p2 :: more) ((nm, some i, ts) :: hs)
theorem outs_drop {G : Gv} {H : Hp} {h : Hd} {D : EndsD} {DV : Ends} (o : OutS G H h D DV) (i : Option Nat) : OutS G H h (dropD i D) (dropI i DV) := by
  cases i with
  | none => exact o
  | some i =>
    have un : ∀ {H' : Hp} {σ : Sd} {σV : List (Option V)}, RelS G H' σ σV → RelS G H' (σ.set i none) (σV.set i none) := fun {H' σ σV} r => by
      refine ⟨by rw [List.length_set, List.length_set]; exact r.1, fun j d e => ?_⟩
      by_cases c : i = j
      · subst c
        rw [List.getElem?_set] at e
        split at e
        · split at e <;> cases e
        · rename_i k; exact absurd rfl k
      · rw [List.getElem?_set_ne c] at e
        rw [List.getElem?_set_ne c]
        exact r.2 j d e
    exact ⟨fun σ' h' σV' H' q g r => o.nx _ _ _ _ q g (un r), o.rt, fun σ' h' σV' H' q g r => o.bk _ _ _ _ q g (un r), fun σ' h' σV' H' q g r => o.ct _ _ _ _ q g (un r)⟩
theorem rels_keep {G : Gv} {H : Hp} {σ : Sd} {σV : List (Option V)} (r : RelS G H σ σV) (i : Option Nat) (a : Addr) : RelS G H (keepD i σ a) (keepI i σV a) := by
  cases i with
  | none => exact r
  | some i => exact r.set (.v _)
section
variable {X : Cx} {B : Bs} {E : ER} {body : List Stmt} {first : ExceptHandler} {others : List ExceptHandler} {at_ : Pos} {b : ER → SD} {tab : Str → Str → Option Bool} {hs : List HndD}
theorem clauses_of {hl : List ExceptHandler} (c : ClausesD X tab hl hs) : ∃ ws, Clauses X hl ws ∧ ∀ (Wout : WX) (Bt : Bs) (D : EndsD) (DV : Ends), OutS X.gv Bt.H Bt.h D DV → RegE X.gv Bt E Wout → RegE X.gv Bt (hE tab E D hs) (wMix X.K Wout DV ws) := by
  induction c with
  | nil => exact ⟨[], .nil, fun Wout Bt D DV o re => re⟩
  | @plain nm ts st0 sts p1 p2 more hs known walk tail gl ih =>
    obtain ⟨u, ⟨hdb, hu⟩, he⟩ := known
    obtain ⟨ws, cl, reg⟩ := ih
    refine ⟨(u, none, suiteV X.gv ts) :: ws, .plain ⟨gl, hdb, hu⟩ (fun ea eo k dd pl hz hf => ⟨fun pins s σV H DV I ⟨x, σ, h, D, rs, rh, rx, q, o⟩ => (walk ea eo k dd pl hz hf x ⟨H, h⟩ rh rx).run pins s σV H DV I ⟨σ, h, D, ⟨Go.refl rh, rs⟩, q, o⟩⟩) cl, fun Wout Bt D DV o re x σ h cls d σV H ex r0 rx => ?_⟩
    obtain ⟨b, tb, yes, no⟩ := ex
    refine ⟨b, he _ _ _ tb rx.1, fun eb ea hn => ?_, fun eb => reg Wout Bt D DV o re x σ h cls d σV H (no eb) r0 rx⟩
    exact ⟨x, _, h, _, rels_keep r0.s none ea, r0.h, rx, yes eb ea (r0.h.free hn), outs_drop (o.on r0.go) none⟩
  | @named nm v i ts st0 sts p1 p2 more hs known walk tail slot loc gl ih =>
    obtain ⟨u, ⟨hdb, hu⟩, he⟩ := known
    obtain ⟨ws, cl, reg⟩ := ih
    refine ⟨(u, some i, suiteV X.gv ts) :: ws, .named ⟨gl, hdb, hu⟩ slot loc (fun ea eo k dd pl hz hf => ⟨fun pins s σV H DV I ⟨x, σ, h, D, rs, rh, rx, q, o⟩ => (walk ea eo k dd pl hz hf x ⟨H, h⟩ rh rx).run pins s σV H DV I ⟨σ, h, D, ⟨Go.refl rh, rs⟩, q, o⟩⟩) cl, fun Wout Bt D DV o re x σ h cls d σV H ex r0 rx => ?_⟩
    obtain ⟨b, tb, yes, no⟩ := ex
    refine ⟨b, he _ _ _ tb rx.1, fun eb ea hn => ?_, fun eb => reg Wout Bt D DV o re x σ h cls d σV H (no eb) r0 rx⟩
    exact ⟨x, _, h, _, rels_keep r0.s (some i) ea, r0.h, rx, yes eb ea (r0.h.free hn), outs_drop (o.on r0.go) (some i)⟩
theorem ds_try (rg : Rg X B E) (hnd : X.N.Nodup) (hwalk : ∀ (pl : List (Addr × Obj)) (xe : Value → Shared → Prop) (Bt : Bs) (Et : ER), Rg (X.tr pl xe) Bt Et → DSs (X.tr pl xe) Bt body (b Et))
    (hcl : ClausesD X tab (first :: others) hs) (hstk : X.stack = X.env :: X.outer := by rfl) (hfrm : X.env.frame = some X.env.locals := by rfl) : DS X B (.Try body (first :: others) [] [] at_) (dTry b tab hs E) := by
  obtain ⟨W, tk, re⟩ := rg.tk
  obtain ⟨ws, cl, reg⟩ := clauses_of (E := E) hcl
  have main := ps_try_mix (body := body) (at_ := at_) (tb := fun W' DV σV H => ∃ σ h D E', RelS X.gv H σ σV ∧ RelH X.gv H h ∧ RegE X.gv ⟨H, h⟩ E' W' ∧ b E' D σ h ∧ OutS X.gv H h D DV) hstk hfrm hnd tk
    (fun W' pl xe tk' po => ⟨fun pins s σV H DV I ⟨σ, h, D, E', rs, rh, re', q, o⟩ => (hwalk pl xe ⟨H, h⟩ E' ⟨rg.calm, po, W', tk', re'⟩).run pins s σV H DV I ⟨σ, h, D, ⟨Go.refl rh, rs⟩, q, o⟩⟩) cl
  refine ⟨fun pins s σV H DV I hh => main.run pins s σV H DV I ?_⟩
  obtain ⟨σ, h, D, r0, q, o⟩ := hh
  refine ⟨σ, h, D, _, r0.s, r0.h, reg W ⟨H, h⟩ D DV o ?_, q, o⟩
  intro x σ' h' cls d σV' H' ex r1 rx
  exact re x σ' h' cls d σV' H' ex ⟨r0.go.trans r1.go, r1.s⟩ rx
end
end DL
namespace DL
open PySem PySem.Spec PyProof.Rows L2
def dXf (i : Nat) (a : Addr) (x : XD) (ft : List (Str × Str)) (f : Str) : ED := fun σ h Q => gS σ i = some (.v (.ref a)) ∧ (x.cls, f) ∈ ft ∧ ∃ y, x.fs.lookup f = some y ∧ Q y h
def anyT (tab : Str → Str → Option Bool) (n : Str) : List Str → Option Bool
  | [] => some false
  | c :: r => match tab n c with
    | some true => some true
    | some false => anyT tab n r
    | none => none
def dXi (i : Nat) (a : Addr) (x : XD) (own : List Str) (tab : Str → Str → Option Bool) (c : Str) : ED := fun σ h Q => gS σ i = some (.v (.ref a)) ∧ x.cls ∈ own ∧ ∃ b, tab x.cls c = some b ∧ Q (.v (.bl b)) h
def dXis (i : Nat) (a : Addr) (x : XD) (own : List Str) (tab : Str → Str → Option Bool) (cs : List Str) : ED := fun σ h Q => gS σ i = some (.v (.ref a)) ∧ x.cls ∈ own ∧ ∃ b, anyT tab x.cls cs = some b ∧ Q (.v (.bl b)) h
structure OwnX (K : PySem.W.Frag) (C : Addr) : Prop where
  xf : XfC K C
  ha : PySem.W.findIn K (.ref C) "__class__" = some (some (.builtin "object.__class__"))
  hn : PySem.W.specialIn K (.builtin "object.__class__") "__get__" = some (some (.builtin "getset_descriptor.__get__"))
  ht : PySem.W.takesIn K (.builtin "object.__class__") = some true
  hm : PySem.W.mroIn K C (.type "object") = some true
  cl : (PySem.W.clsIn K C).isSome = true
structure ErT (K : PySem.W.Frag) (mg : Str → Option Value) (tab : Str → Str → Option Bool) (own : List Str) (ft : List (Str × Str)) (named : List Str) : Prop where
  own : ∀ n ∈ own, ∃ C, mg n = some (.ref C) ∧ OwnX K C
  ft : ∀ p ∈ ft, ∃ C, mg p.1 = some (.ref C) ∧ XfC K C ∧ PySem.W.findIn K (.ref C) p.2 = some none
  named : ∀ c ∈ named, ∃ w u, NmV mg c u ∧ ClsV w u ∧ RelV w u ∧ ∀ n b k, tab n c = some b → mg n = some k → PySem.W.kitOne K k u = some b ∧ PySem.W.exmOne K k u = some b
theorem kitAny_of {K : PySem.W.Frag} {k : Value} {tab : Str → Str → Option Bool} {n : Str} : ∀ {cs : List Str} {us : List Value}, Paired (fun c u => ∀ b, tab n c = some b → PySem.W.kitOne K k u = some b) cs us → ∀ {b}, anyT tab n cs = some b → PySem.W.kitAny K k us = some b
  | _, _, .nil, b, h => by cases h; rfl
  | c :: cs, u :: us, .cons p t, b, h => by
    unfold anyT at h
    unfold PySem.W.kitAny
    split at h
    · rename_i e; cases h; rw [p _ e]
    · rename_i e; rw [p _ e]; exact kitAny_of t h
    · cases h
section
variable {X : Cx} {B : Bs} {ea : Addr} {eo : Obj} {k : Value} {dd : Option Addr} {pl : List (Addr × Obj)} {x : XD} {tab : Str → Str → Option Bool} {own named : List Str} {ft : List (Str × Str)} {i : Nat} {v f : Str} {p pos : Pos}
theorem rx_keep {G : Gv} {B : Bs} {H : Hp} {h : Hd} (rh : RelH G B.H B.h) (rx : RelX G B.H x k dd) (g : Go G B.H B.h H h) : RelX G H x k dd := by
  refine ⟨rx.1, ?_⟩
  rcases rx.2 with e | ⟨d, vs, ed, eh, rp⟩
  · exact .inl e
  · refine .inr ⟨d, vs, ed, ?_, rp.stb g.st⟩
    have : B.h d = none := by
      cases q : B.h d with
      | none => rfl
      | some o =>
        obtain ⟨u, hu, ok⟩ := rh d o q
        rw [eh] at hu
        cases hu
        cases o with
        | lst ds => obtain ⟨_, z, _⟩ := ok; cases z
        | dk kvs => obtain ⟨_, z, _⟩ := ok; cases z
        | dn kvs => obtain ⟨_, _, _, z, _⟩ := ok; cases z
        | ins C fs => obtain ⟨_, _, _, _, z, _⟩ := ok; cases z
    exact (g.fr d _ eh this).1
theorem rpk_look {G : Gv} {H : Hp} {f : Str} {y : D} : ∀ {fs : List (Str × D)} {vs : List (Str × V)}, RpK G H fs vs → fs.lookup f = some y → ∃ w, vs.lookup f = some w ∧ Rp G.K H y w
  | (g, d) :: fs, (g', w) :: vs, .cons ⟨e, r⟩ t, h => by
    cases (show g = g' from e)
    by_cases c : f = g
    · subst c
      simp [List.lookup] at h ⊢
      subst h
      exact r
    · have c' : (f == g) = false := by simpa using c
      simp only [List.lookup, c'] at h ⊢
      exact rpk_look t h
theorem de_xf (T : ErT X.K X.mg tab own ft named) (hz : Zc k dd eo) (hf : ∃ us, eo.data = .fields us) (rh : RelH X.gv B.H B.h) (rx : RelX X.gv B.H x k dd)
    (he : DE (X.suite ea ((ea, eo) :: pl)) B (.Name v p) (dVar i)) (hb : attributeBase (.Name v p) f X.env (eval (.Name v p) X.env) = eval (.Name v p) X.env := by rfl) :
    DE (X.suite ea ((ea, eo) :: pl)) B (.Attribute (.Name v p) f pos) (dXf i ea x ft f) := by
  by_cases hm : (x.cls, f) ∈ ft
  · obtain ⟨C, m, xc, no⟩ := T.ft _ hm
    have ek : k = .ref C := by
      have := rx.1
      rw [show X.gv.mg = X.mg from rfl, m] at this
      cases this
      rfl
    refine PE.imp (pe_xf xc no hz hf he hb) fun σV H QV ⟨σ, h, Q, r0, q, o⟩ => ⟨σ, h, fun d h' => d = .v (.ref ea) ∧ ∃ y, x.fs.lookup f = some y ∧ Q y h', r0, ?_, ?_⟩
    · obtain ⟨e1, _, y, e2, q⟩ := q
      show dVar i σ h _
      unfold dVar
      rw [e1]
      exact ⟨rfl, y, e2, q⟩
    · rintro d h1 w H1 ⟨rfl, y, ey, q⟩ g rw'
      cases rw'
      have rx1 := rx_keep rh rx (r0.go.trans g)
      rcases rx1.2 with e | ⟨d, vs, ed, eh, rp⟩
      · rw [e.1] at ey; cases ey
      · obtain ⟨w, hw, r⟩ := rpk_look rp ey
        exact ⟨rfl, ek, d, vs, w, ed, eh, hw, o y h1 w H1 q g r⟩
  · exact ⟨fun pins s σV H QV I ⟨σ, h, Q, r0, q, o⟩ => absurd q.2.1 hm⟩
def rIsX (K : PySem.W.Frag) (k : Value) (dd : Option Addr) (a : Addr) : List V → Hp → VK → Prop := fun xs H Q => (∀ d, dd = some d → ∃ vs, H d = some (.xd vs)) ∧ ∃ c b, xs = [.ref a, c] ∧ ((∃ u, ClsV c u ∧ PySem.W.kitOne K k u = some b) ∨ ∃ tp cs us, c = .ref tp ∧ H tp = some (.tup cs) ∧ Paired ClsV cs us ∧ PySem.W.kitAny K k us = some b) ∧ Q (.bl b) H
theorem call_isX {C : Addr} (O : OwnX X.K C) (ek : k = .ref C) (hz : Zc k dd eo) (hf : ∃ us, eo.data = .fields us) :
    CallR (X.suite ea ((ea, eo) :: pl)) (.builtin "isinstance") (rIsX X.K k dd ea) := by
  intro pins s σ H xs us Q I r h
  obtain ⟨hdd, c, b, rfl, hc, q⟩ := h
  obtain ⟨u1, u2, rfl, r1, r2⟩ := vals2 r
  cases (show u1 = Value.ref ea from r1)
  obtain ⟨hget, _⟩ := I.pin (ea, eo) (List.mem_append.mpr (.inl List.mem_cons_self))
  obtain ⟨vs, hv⟩ := hf
  have J : ∃ od, PySem.W.InstAt s.heap ea eo C od := by
    cases hd : dd with
    | none => exact ⟨none, hget, by rw [hz.1, ek], by unfold PySem.W.notCls; rw [hv] <;> rfl, by rw [hz.2, hd]; trivial⟩
    | some d =>
      obtain ⟨vs1, hvs⟩ := hdd d hd
      obtain ⟨mA, hns, _⟩ := (show ObjOk X.prog X.w H s.heap d (.xd vs1) from I.hok d _ hvs)
      obtain ⟨ob, ho, _⟩ := lookIn_ns hns
      exact ⟨some ob, hget, by rw [hz.1, ek], by unfold PySem.W.notCls; rw [hv] <;> rfl, by rw [hz.2, hd]; exact ho⟩
  obtain ⟨od, J⟩ := J
  have Z := PySem.W.kitx_exc (x := ea) (ox := eo) (od := od) O.cl O.xf.ga O.xf.gg O.xf.exC O.ha O.hn O.ht O.hm
  subst ek
  rcases hc with ⟨u, cv, e⟩ | ⟨tp, cs, us, rfl, hT, kc, e⟩
  · have e2 := cv.eq r2
    subst e2
    exact PySem.W.kia_one Z I.kIn J e (fun z => nomatch z) fun tk => ⟨.bl b, H, I.tok tk, rfl, q⟩
  · cases (show u2 = Value.ref tp from r2)
    obtain ⟨_, its, rv, ob, h1, h2, n, h3⟩ := (show ObjOk X.prog X.w H s.heap tp (.tup cs) from I.hok tp _ hT)
    have e3 := ClsV.all kc rv
    subst e3
    obtain ⟨oc, odt, dt, sl⟩ := ob
    simp only at h2 h3
    subst h2 h3
    exact PySem.W.kia_tup Z I.kIn J h1 e (fun z => nomatch z) fun tk => ⟨.bl b, H, I.tok tk, rfl, q⟩
theorem pe_nm {Y : Cx} {n : Str} {w : V} {u : Value} {q : Pos} (g : Gl Y n) (m : NmV Y.mg n u) (r : RelV w u) : PE Y (.Name n q) (tC w) := by
  obtain ⟨hdb, m | ⟨m, hv, hn⟩⟩ := m
  · exact pe_glob g m r hdb
  · exact pe_bltn g m hv r hn hdb
inductive NmsE (X : Cx) : List Expr → List Str → Prop
  | nil : NmsE X [] []
  | cons {n : Str} {q : Pos} {es : List Expr} {ns : List Str} : NmsE X es ns → (gl : Gl X n := by rfl) → NmsE X (.Name n q :: es) (n :: ns)
def tRow (ws : List V) : TA := fun _ H Q => Q ws H
theorem pa_row (T : ErT X.K X.mg tab own ft named) : ∀ {es : List Expr} {ns : List Str}, NmsE X es ns → (∀ n ∈ ns, n ∈ named) → (hs : ∀ e ∈ es, ∀ r : List Expr, starEach (e :: r) X.env = (false, eval e X.env) :: starEach r X.env) →
    ∃ ws us, PA (X.suite ea ((ea, eo) :: pl)) es (tRow ws) ∧ Paired ClsV ws us ∧ ws.length = ns.length ∧ Paired (fun c u => ∀ n b k, tab n c = some b → X.mg n = some k → PySem.W.kitOne X.K k u = some b) ns us
  | _, _, .nil, _, _ => ⟨[], [], PA.imp pa_nil fun σ H Q q => q, .nil, rfl, .nil⟩
  | _, _, .cons (n := n) (es := es) t gl, hm, hs => by
    obtain ⟨ws, us, pa, cv, hl, kt⟩ := pa_row T t (fun n hn => hm n (List.mem_cons_of_mem _ hn)) (fun e he => hs e (List.mem_cons_of_mem _ he))
    obtain ⟨w, u, m, c, r, kk⟩ := T.named n (hm n List.mem_cons_self)
    refine ⟨w :: ws, u :: us, PA.imp (pa_cons (pe_nm (Y := X.suite ea ((ea, eo) :: pl)) gl m r) pa (hs _ List.mem_cons_self es)) fun σ H Q q => q, .cons c cv, congrArg Nat.succ hl, .cons (fun n b k h1 h2 => (kk n b k h1 h2).1) kt⟩
theorem mapKit {K : PySem.W.Frag} {mg : Str → Option Value} {n : Str} {kv : Value} (m : mg n = some kv) : ∀ {ns : List Str} {us : List Value}, Paired (fun c u => ∀ n b k, tab n c = some b → mg n = some k → PySem.W.kitOne K k u = some b) ns us → Paired (fun c u => ∀ b, tab n c = some b → PySem.W.kitOne K kv u = some b) ns us
  | _, _, .nil => .nil
  | _, _, .cons p t => .cons (fun b e => p n b kv e m) (mapKit m t)
theorem dict_there {G : Gv} {H : Hp} (rx : RelX G H x k dd) : ∀ d, dd = some d → ∃ vs, H d = some (.xd vs) := fun d e => by
  rcases rx.2 with ⟨_, n⟩ | ⟨d', vs, ed, eh, _⟩
  · rw [n] at e; cases e
  · rw [ed] at e; cases e; exact ⟨vs, eh⟩
theorem de_isE {q q1 q2 cp : Pos} {cn : Str} (T : ErT X.K X.mg tab own ft named) (hz : Zc k dd eo) (hf : ∃ us, eo.data = .fields us) (rh : RelH X.gv B.H B.h) (rx : RelX X.gv B.H x k dd) (hmg : X.mg "isinstance" = none) (hcn : cn ∈ named)
    (he : PE (X.suite ea ((ea, eo) :: pl)) (.Name v q) (L2.tVar i)) (gi : Gl X "isinstance" := by rfl) (gc : Gl X cn := by rfl)
    (s1 : ∀ r : List Expr, starEach (.Name cn q1 :: r) X.env = (false, eval (.Name cn q1) X.env) :: starEach r X.env := by intro _; rfl) (s2 : ∀ r : List Expr, starEach (.Name v q :: r) X.env = (false, eval (.Name v q) X.env) :: starEach r X.env := by intro _; rfl)
    (hpl : (backTo cp (starEach [.Name cn q1] X.env)).any (·.1) = false := by rfl) :
    DE (X.suite ea ((ea, eo) :: pl)) B (.Call (.Name "isinstance" q2) [.Name v q, .Name cn q1] [] cp) (dXi i ea x own tab cn) := by
  by_cases hm : x.cls ∈ own
  · obtain ⟨C, m, O⟩ := T.own _ hm
    have ek : k = .ref C := by
      have := rx.1
      rw [show X.gv.mg = X.mg from rfl, m] at this
      cases this
      rfl
    obtain ⟨w, u, mu, cv, rw', kk⟩ := T.named cn hcn
    have main := pe_callB (p := q2) (pos := cp) (call_isX (pl := pl) O ek hz hf) gi hmg PyProof.Rows.boot_isinstance (pa_cons he (pa_cons (pe_nm (Y := X.suite ea ((ea, eo) :: pl)) gc mu rw') pa_nil (s1 _)) (s2 _)) (by decide) (by decide) (s2 _) hpl
    refine PE.imp main fun σV H QV ⟨σ, h, Q, r0, qq, o⟩ => ?_
    obtain ⟨e1, _, b, tb, q⟩ := qq
    have e1' : σ[i]? = some (some (D.v (.ref ea))) := gS_eq _ _ _ e1
    obtain ⟨v1, ev, rp⟩ := r0.s.2 i _ e1'
    cases rp
    have rx1 := rx_keep rh rx r0.go
    refine ⟨.ref ea, ev, dict_there rx1, w, b, rfl, .inl ⟨u, cv, by rw [ek]; exact (kk _ _ _ tb m).1⟩, o (.v (.bl b)) h (.bl b) H q (Go.refl r0.h) (.v _)⟩
  · exact ⟨fun pins s σV H QV I ⟨σ, h, Q, r0, q, o⟩ => absurd q.2.1 hm⟩
theorem de_isEs {q q2 cp tp : Pos} {cs : List Str} {es : List Expr} {x1 : Nat} (T : ErT X.K X.mg tab own ft named) (hz : Zc k dd eo) (hf : ∃ us, eo.data = .fields us) (rh : RelH X.gv B.H B.h) (rx : RelX X.gv B.H x k dd) (hmg : X.mg "isinstance" = none) (hcs : ∀ n ∈ cs, n ∈ named)
    (he : PE (X.suite ea ((ea, eo) :: pl)) (.Name v q) (L2.tVar i)) (row : NmsE X es cs) (hs : ∀ e ∈ es, ∀ r : List Expr, starEach (e :: r) X.env = (false, eval e X.env) :: starEach r X.env) (gi : Gl X "isinstance" := by rfl)
    (s1 : ∀ r : List Expr, starEach (.Tuple es x1 tp :: r) X.env = (false, eval (.Tuple es x1 tp) X.env) :: starEach r X.env := by intro _; rfl) (s2 : ∀ r : List Expr, starEach (.Name v q :: r) X.env = (false, eval (.Name v q) X.env) :: starEach r X.env := by intro _; rfl)
    (hpl : (backTo cp (starEach [.Tuple es x1 tp] X.env)).any (·.1) = false := by rfl) (hlen : cs.length ≤ 1000 := by decide) :
    DE (X.suite ea ((ea, eo) :: pl)) B (.Call (.Name "isinstance" q2) [.Name v q, .Tuple es x1 tp] [] cp) (dXis i ea x own tab cs) := by
  by_cases hm : x.cls ∈ own
  · obtain ⟨C, m, O⟩ := T.own _ hm
    have ek : k = .ref C := by
      have := rx.1
      rw [show X.gv.mg = X.mg from rfl, m] at this
      cases this
      rfl
    obtain ⟨ws, us, pa, cv, wl, kt⟩ := pa_row (ea := ea) (eo := eo) (pl := pl) T row hcs hs
    have main := pe_callB (p := q2) (pos := cp) (call_isX (pl := pl) O ek hz hf) gi hmg PyProof.Rows.boot_isinstance (pa_cons he (pa_cons (pe_tup pa) pa_nil (s1 _)) (s2 _)) (by decide) (by decide) (s2 _) hpl
    refine PE.imp main fun σV H QV ⟨σ, h, Q, r0, qq, o⟩ => ?_
    obtain ⟨e1, _, b, tb, q⟩ := qq
    have e1' : σ[i]? = some (some (D.v (.ref ea))) := gS_eq _ _ _ e1
    obtain ⟨v1, ev, rp⟩ := r0.s.2 i _ e1'
    cases rp
    have rx1 := rx_keep rh rx r0.go
    have lw : ws.length ≤ sizeLine := by rw [wl]; exact Nat.le_trans hlen (by decide)
    refine ⟨.ref ea, ev, lw, fun p hp => ?_⟩
    have g2 : Go X.gv H h (upd H p (.tup ws)) h := Go.hid r0.h hp
    refine ⟨dict_there (rx_keep rh rx (r0.go.trans g2)), .ref p, b, rfl, .inr ⟨p, ws, us, rfl, upd_same, cv, by rw [ek]; exact kitAny_of (mapKit m kt) tb⟩, o (.v (.bl b)) h (.bl b) _ q g2 (.v _)⟩
  · exact ⟨fun pins s σV H QV I ⟨σ, h, Q, r0, q, o⟩ => absurd q.2.1 hm⟩
end
end DL
namespace DL
open PySem PySem.Spec PyProof.Rows L2
open PySem.HandSPX (veTail)
section
variable {P : Program} {K : PySem.W.Frag} {mg : Str → Option Value} {C fI : Addr} {fd : FuncData} {x s0 f1 f2 : Str}
theorem pe_par {w : World} {base : Heap} {ps : List Str} {A : Around} {outer : List Env} {s : Shared} {H : Hp} {E : XK} {i : Nat} {n : Str} {q : Pos} (S : SupF P K mg C fI fd ps) (hi : ps[i]? = some n) (hd : (n == ("__debug__" : Str)) = false) (hcd : (n == ("__classdict__" : Str)) = false) :
    PE (cxS P w K mg base ps fd fI A outer s H E) (.Name n q) (L2.tVar i) := pe_var hi (.inl (S.par n (List.mem_of_getElem? hi))) hd hcd
theorem exk1 {pl : Nat → Sem Bool} {p0 p1 p2 p3 p4 q1 q2 q3 q4 q5 : Pos} {w : World} {base : Heap} (S : SupF P K mg C fI fd [s0, f1]) (hbody : fd.body = .stmts [.Expr (.Call (.Attribute (.Call (.Name "super" p0) [] [] p1) "__init__" p2) [.Name f1 q1] [] p3) p4, .Assign [.Attribute (.Name s0 q2) f1 q3] (.Name f1 q4) q5])
    (mgx : mg x = some (.ref C)) (ii : PySem.W.findIn K (.ref C) "__init__" = some (some (.ref fI))) (ti : PySem.W.typeIn K (.ref fI) = some (.type "function")) (hb : Binds K fd [s0, f1] []) (no1 : PySem.W.findIn K (.ref C) f1 = some none)
    (d0 : (s0 == ("__debug__" : Str)) = false) (d0' : (s0 == ("__classdict__" : Str)) = false) (d1 : (f1 == ("__debug__" : Str)) = false) (d1' : (f1 == ("__classdict__" : Str)) = false)
    (hev : ∀ L, eval (.Call (.Attribute (.Call (.Name "super" p0) [] [] p1) "__init__" p2) [.Name f1 q1] [] p3) (callEnv fd L fI) = (do
      let ov ← attributeBase (.Call (.Name "super" p0) [] [] p1) "__init__" (callEnv fd L fI) (eval (.Call (.Name "super" p0) [] [] p1) (callEnv fd L fI))
      standAt p2.atName
      let (f', first) ← holding [ov] (getMethod ov "__init__" (pl L))
      callWith p3 f' first (backTo p3 (starEach [.Name f1 q1] (callEnv fd L fI))) [])) : ExK P w K mg base x [f1] C := by
  refine ⟨S.exc, mgx, fun f hf => by rw [List.mem_singleton.mp hf]; exact no1, by simp, fI, fd, [s0, f1], trInit1 K f1, ii, ti, hb, rfl, fun k => ?_, .inl ⟨f1, rfl, rfl⟩⟩
  refine fn_sup (n := 1) (e := .Name f1 q1) (es := []) (stms := [.Assign [.Attribute (.Name s0 q2) f1 q3] (.Name f1 q4) q5]) (rest := []) (t := tCons (L2.tVar 1) tNil) (pl := pl) S hbody (fun A outer s H E => pa_cons (pe_par S rfl d1 d1') pa_nil) (fun a ws H hl => ?_) (fun A outer s H E => pss_cons (ps_ost (pe_par S rfl d0 d0') (pe_par S rfl d1 d1')) pss_nil) (hev := hev)
  match ws, hl with
  | [y], _ => exact ⟨y, rfl, by show 1 ≤ 1000; decide, rfl⟩
end
def supB (ps : List Str) (sc : Scope) : Bool :=
  (match sc.kind with | .function => true | _ => false) && !sc.isCoroutine && !sc.isGenerator && decide ps.Nodup && (ps.all fun y => decide (sc.names.lookup y = some .local)) &&
  (sc.names.all fun y => (match y.2 with | .cell => false | .free => decide (y.1 = "__class__") | _ => true)) && decide (sc.names.lookup ("super" : Str) = some .globalImplicit) && decide (sc.names.lookup ("__class__" : Str) = some .free)
def ExD (P : Program) (K : PySem.W.Frag) (mg : Str → Option Value) (x : Str) (fs : List Str) : Prop := ∃ C, ∀ w base, ExK P w K mg base x fs C
section
variable {P : Program} {K : PySem.W.Frag} {h : Heap} {mg : Str → Option Value} {x nm q file f1 f2 s0 : Str} {C S N fI cc cda : Addr} {bs : List Value} {sn : List Str} {sub : List Value} {ab : Bool} {col : Option Bool} {dd d1 d2 d3 od : Option Addr} {k0 k1 k2 k3 k5 : Option Value}
  {c1 c2 c3 oc : Value} {cdS : ClassData} {sl1 sl2 sl3 osl : Array (Option Value)} {fd : FuncData} {vs : Array Value} {tf : Tok} {ps : List Str} {p0 p1 p2 p3 p4 q1 q2 q3 q4 q5 r1 r2 r3 r4 r5 : Pos} {pl : Nat → Sem Bool}
theorem supf_mk (X : K.In h) (G : h.Ns mainGlobals mg) (xa : PySem.W.nsIn K mainGlobals x = some (some (.ref C)))
    (xl : K.lookup C = some (excClassObj nm q C N bs (.ref S :: veTail) true sn sub ab col dd k0 k1 k2 k3 k5 "ValueError.__new__")) (xo : K.lookup S = some ⟨c1, d1, .cls cdS, sl1⟩) (xn : PySem.W.nsIn K cdS.ns "__init__" = some none)
    (sa : PySem.W.findIn K (.ref C) "__setattr__" = some (some (.builtin "object.__setattr__"))) (xb : PySem.W.subIn K (.ref C) (.type "BaseException") = some true) (xt : PySem.W.typeIn K (.ref C) = some (.type "type")) (xk : PySem.W.keepIn K (.ref C) = true)
    (xv : PySem.W.subIn K (.ref C) (.type "ValueError") = some true) (xm : PySem.W.mroIn K C (.ref C) = some true) (ii : PySem.W.findIn K (.ref C) "__init__" = some (some (.ref fI))) (ti : PySem.W.typeIn K (.ref fI) = some (.type "function"))
    (lf : K.lookup fI = some ⟨oc, od, .func fd, osl⟩) (cd : PySem.W.codeIn K fd.code fd.qualname = true) (sb : supB ps fd.scope = true) (gl : fd.globals = mainGlobals ∧ fd.builtins = builtinsNs) (cl : fd.closure = [(("__class__" : Str), cc)]) (kc : K.lookup cc = some ⟨c2, d2, .cell (some (.ref C)), sl2⟩)
    (ce : fd.code = .ref cda) (ke : K.lookup cda = some ⟨c3, d3, .fields vs, sl3⟩) (kv : vs[2]? = some (.str file tf)) (pf : ((P.main.file : Str) == file) = true) (pt : (P.main.scope.names.lookup ("super" : Str)).isSome = false)
    (ar : ∃ ar : Arg, (fd.params.posonlyargs ++ fd.params.args).head? = some ar ∧ ps.head? = some ar.arg) (ms : PySem.W.nsIn K mainGlobals "super" = some none) (oq : PySem.W.nsIn K cStatics "thirdparty.any" = some none) : SupF P K mg C fI fd ps := by
  unfold supB at sb
  simp only [Bool.and_eq_true, List.all_eq_true, decide_eq_true_eq, Bool.not_eq_true'] at sb
  obtain ⟨⟨⟨⟨⟨⟨⟨b1, b2⟩, b3⟩, b4⟩, b5⟩, b6⟩, b7⟩, b8⟩ := sb
  have hcd : PySem.W.clsIn K C = some { name := nm, bases := bs, mro := .ref C :: .ref S :: veTail, ns := N, qualname := q, hasDict := true, slotNames := sn, subclasses := sub, abstract := ab, collection := col, hasDel := false } := by unfold PySem.W.clsIn; rw [xl]
  refine ⟨⟨_, _, _, lf⟩, ?_, b2, b3, gl.1, gl.2, ⟨cc, c2, d2, sl2, cl, kc⟩, b4, b5, fun y hy => ?_, fun y hy e => ?_, b7, b8, PySem.W.mg_none_of X G ms, cd, ⟨cda, c3, d3, sl3, vs, file, tf, ce, ke, kv, pf⟩, pt, ar, oq, ⟨⟨nm, q, N, bs, .ref S :: veTail, sn, sub, ab, col, dd, k0, k1, k2, k3, k5, xl, by show PySem.HandSPX.refsVE veTail = true; decide +kernel⟩, sa, xb, xt, xk⟩, ?_, xv, xm⟩
  · split at b1
    · assumption
    · cases b1
  · have := b6 _ (PySem.mem_of_lookup hy)
    simpa using this
  · have := b6 _ hy
    rw [e] at this
    cases this
  · unfold PySem.W.ks_superIn
    rw [hcd, Option.bind_some]
    show PySem.W.alongIn K "__init__" (((Value.ref C :: .ref S :: veTail).dropWhile (· != .ref C)).drop 1) = _
    have e1 : ((Value.ref C :: .ref S :: veTail).dropWhile (· != .ref C)).drop 1 = .ref S :: veTail := by simp [List.dropWhile_cons]
    rw [e1]
    unfold PySem.W.alongIn
    have e2 : PySem.W.ownIn K "__init__" (.ref S) = some none := by
      show (match K.lookup S with | some ⟨_, _, .cls cd, _⟩ => PySem.W.nsIn K cd.ns "__init__" | _ => none) = some none
      rw [xo]
      exact xn
    rw [e2]
    show PySem.W.alongIn K "__init__" veTail = _
    kernel_rfl
theorem exd1_mk (X : K.In h) (G : h.Ns mainGlobals mg) (xa : PySem.W.nsIn K mainGlobals x = some (some (.ref C)))
    (xl : K.lookup C = some (excClassObj nm q C N bs (.ref S :: veTail) true sn sub ab col dd k0 k1 k2 k3 k5 "ValueError.__new__")) (xo : K.lookup S = some ⟨c1, d1, .cls cdS, sl1⟩) (xn : PySem.W.nsIn K cdS.ns "__init__" = some none)
    (sa : PySem.W.findIn K (.ref C) "__setattr__" = some (some (.builtin "object.__setattr__"))) (xb : PySem.W.subIn K (.ref C) (.type "BaseException") = some true) (xt : PySem.W.typeIn K (.ref C) = some (.type "type")) (xk : PySem.W.keepIn K (.ref C) = true)
    (xv : PySem.W.subIn K (.ref C) (.type "ValueError") = some true) (xm : PySem.W.mroIn K C (.ref C) = some true) (ii : PySem.W.findIn K (.ref C) "__init__" = some (some (.ref fI))) (ti : PySem.W.typeIn K (.ref fI) = some (.type "function"))
    (lf : K.lookup fI = some ⟨oc, od, .func fd, osl⟩) (cd : PySem.W.codeIn K fd.code fd.qualname = true) (sb : supB [s0, f1] fd.scope = true) (gl : fd.globals = mainGlobals ∧ fd.builtins = builtinsNs) (cl : fd.closure = [(("__class__" : Str), cc)]) (kc : K.lookup cc = some ⟨c2, d2, .cell (some (.ref C)), sl2⟩)
    (ce : fd.code = .ref cda) (ke : K.lookup cda = some ⟨c3, d3, .fields vs, sl3⟩) (kv : vs[2]? = some (.str file tf)) (pf : ((P.main.file : Str) == file) = true) (pt : (P.main.scope.names.lookup ("super" : Str)).isSome = false)
    (ar : ∃ ar : Arg, (fd.params.posonlyargs ++ fd.params.args).head? = some ar ∧ [s0, f1].head? = some ar.arg) (ms : PySem.W.nsIn K mainGlobals "super" = some none) (oq : PySem.W.nsIn K cStatics "thirdparty.any" = some none)
    (no1 : PySem.W.findIn K (.ref C) f1 = some none) (hbody : fd.body = .stmts [.Expr (.Call (.Attribute (.Call (.Name "super" p0) [] [] p1) "__init__" p2) [.Name f1 q1] [] p3) p4, .Assign [.Attribute (.Name s0 q2) f1 q3] (.Name f1 q4) q5])
    (hb : ∀ us : List Value, us.length = 2 → bindArgs fd ⟨us, []⟩ = pure ([s0, f1].zip us)) (db : (s0 == ("__debug__" : Str)) = false ∧ (s0 == ("__classdict__" : Str)) = false ∧ (f1 == ("__debug__" : Str)) = false ∧ (f1 == ("__classdict__" : Str)) = false)
    (hev : ∀ L, eval (.Call (.Attribute (.Call (.Name "super" p0) [] [] p1) "__init__" p2) [.Name f1 q1] [] p3) (callEnv fd L fI) = (do
      let ov ← attributeBase (.Call (.Name "super" p0) [] [] p1) "__init__" (callEnv fd L fI) (eval (.Call (.Name "super" p0) [] [] p1) (callEnv fd L fI))
      standAt p2.atName
      let (f', first) ← holding [ov] (getMethod ov "__init__" (pl L))
      callWith p3 f' first (backTo p3 (starEach [.Name f1 q1] (callEnv fd L fI))) [])) : ExD P K mg x [f1] := by
  obtain ⟨d0, d0', d1, d1'⟩ := db
  have SF := supf_mk X G xa xl xo xn sa xb xt xk xv xm ii ti lf cd sb gl cl kc ce ke kv pf pt ar ms oq
  exact ⟨C, fun w base => exk1 SF hbody (PySem.W.mg_of X G xa) ii ti (.all hb) no1 d0 d0' d1 d1' hev⟩
end
def tabOf (L : List (Str × List (Str × Bool))) (n c : Str) : Option Bool := (L.lookup c).bind (·.lookup n)
inductive Col (K : PySem.W.Frag) (mg : Str → Option Value) (u : Value) : List (Str × Bool) → Prop
  | nil : Col K mg u []
  | cons {n : Str} {b : Bool} {r : List (Str × Bool)} {C : Addr} : mg n = some (.ref C) → PySem.W.subIn K (.ref C) u = some b → Col K mg u r → Col K mg u ((n, b) :: r)
def NmK (K : PySem.W.Frag) (mg : Str → Option Value) (c : Str) (u : Value) : Prop := NmV mg c u ∧ ∃ w, ClsV w u ∧ RelV w u ∧ ∀ C b, PySem.W.subIn K (.ref C) u = some b → PySem.W.kitOne K (.ref C) u = some b ∧ PySem.W.exmOne K (.ref C) u = some b
inductive Tab (K : PySem.W.Frag) (mg : Str → Option Value) : List (Str × List (Str × Bool)) → Prop
  | nil : Tab K mg []
  | cons {c : Str} {u : Value} {col : List (Str × Bool)} {r : List (Str × List (Str × Bool))} : NmK K mg c u → Col K mg u col → Tab K mg r → Tab K mg ((c, col) :: r)
inductive Owns (K : PySem.W.Frag) (mg : Str → Option Value) : List Str → Prop
  | nil : Owns K mg []
  | cons {n : Str} {C : Addr} {r : List Str} : mg n = some (.ref C) → OwnX K C → Owns K mg r → Owns K mg (n :: r)
inductive Fts (K : PySem.W.Frag) (mg : Str → Option Value) : List (Str × Str) → Prop
  | nil : Fts K mg []
  | cons {n f : Str} {C : Addr} {r : List (Str × Str)} : mg n = some (.ref C) → XfC K C → PySem.W.findIn K (.ref C) f = some none → Fts K mg r → Fts K mg ((n, f) :: r)
section
variable {K : PySem.W.Frag} {mg : Str → Option Value} {h : Heap}
theorem col_look {u : Value} {n : Str} {b : Bool} {k : Value} : ∀ {col : List (Str × Bool)}, Col K mg u col → col.lookup n = some b → mg n = some k → ∃ C, k = .ref C ∧ PySem.W.subIn K (.ref C) u = some b
  | _, .nil, e, _ => by cases e
  | _, .cons (n := m) (b := b') (r := r) hm hs t, e, ek => by
    by_cases c : n = m
    · subst c
      simp [List.lookup] at e
      subst e
      rw [hm] at ek
      cases ek
      exact ⟨_, rfl, hs⟩
    · have c' : (n == m) = false := by simpa using c
      simp only [List.lookup, c'] at e
      exact col_look t e ek
theorem tab_named : ∀ {L : List (Str × List (Str × Bool))}, Tab K mg L → ∀ c ∈ L.map (·.1), ∃ w u, NmV mg c u ∧ ClsV w u ∧ RelV w u ∧ ∀ n b k, tabOf L n c = some b → mg n = some k → PySem.W.kitOne K k u = some b ∧ PySem.W.exmOne K k u = some b
  | _, .nil, c, hc => by cases hc
  | _, .cons (c := d) (u := u) (col := col) (r := r) nk cl t, c, hc => by
    by_cases e : c = d
    · subst e
      obtain ⟨nv, w, cv, rv, kk⟩ := nk
      refine ⟨w, u, nv, cv, rv, fun n b k hb hk => ?_⟩
      have hb' : col.lookup n = some b := by
        unfold tabOf at hb
        simpa [List.lookup] using hb
      obtain ⟨C, rfl, hs⟩ := col_look cl hb' hk
      exact kk C b hs
    · have hr : c ∈ r.map (·.1) := by
        rcases List.mem_cons.mp hc with z | z
        · exact absurd z e
        · exact z
      obtain ⟨w, u', a1, a2, a3, a4⟩ := tab_named t c hr
      refine ⟨w, u', a1, a2, a3, fun n b k hb hk => a4 n b k ?_ hk⟩
      have c' : (c == d) = false := by simpa using e
      unfold tabOf at hb ⊢
      simpa only [List.lookup, c'] using hb
theorem owns_get : ∀ {own : List Str}, Owns K mg own → ∀ n ∈ own, ∃ C, mg n = some (.ref C) ∧ OwnX K C
  | _, .nil, n, hn => by cases hn
  | _, .cons hm o t, n, hn => by
    rcases List.mem_cons.mp hn with rfl | hn
    · exact ⟨_, hm, o⟩
    · exact owns_get t n hn
theorem fts_get : ∀ {ft : List (Str × Str)}, Fts K mg ft → ∀ p ∈ ft, ∃ C, mg p.1 = some (.ref C) ∧ XfC K C ∧ PySem.W.findIn K (.ref C) p.2 = some none
  | _, .nil, n, hn => by cases hn
  | _, .cons hm o e t, n, hn => by
    rcases List.mem_cons.mp hn with rfl | hn
    · exact ⟨_, hm, o, e⟩
    · exact fts_get t n hn
theorem ert_mk {L : List (Str × List (Str × Bool))} {own : List Str} {ft : List (Str × Str)} (o : Owns K mg own) (f : Fts K mg ft) (t : Tab K mg L) : ErT K mg (tabOf L) own ft (L.map (·.1)) := ⟨owns_get o, fts_get f, tab_named t⟩
theorem col_mk {u : Value} {n : Str} {b : Bool} {r : List (Str × Bool)} {C : Addr} (X : K.In h) (G : h.Ns mainGlobals mg) (a : PySem.W.nsIn K mainGlobals n = some (some (.ref C))) (s : PySem.W.subIn K (.ref C) u = some b) (t : Col K mg u r) : Col K mg u ((n, b) :: r) := .cons (PySem.W.mg_of X G a) s t
theorem owns_mk {n : Str} {r : List Str} {C : Addr} (X : K.In h) (G : h.Ns mainGlobals mg) (a : PySem.W.nsIn K mainGlobals n = some (some (.ref C))) (ga : PySem.W.findIn K (.ref C) "__getattribute__" = some (some (.builtin "BaseException.__getattribute__"))) (gg : PySem.W.findIn K (.ref C) "__getattr__" = some none)
    (ex : PySem.W.subIn K (.ref C) (.type "BaseException") = some true) (hd : PySem.W.hasDictIn K C = true) (ha : PySem.W.findIn K (.ref C) "__class__" = some (some (.builtin "object.__class__"))) (hn : PySem.W.specialIn K (.builtin "object.__class__") "__get__" = some (some (.builtin "getset_descriptor.__get__")))
    (ht : PySem.W.takesIn K (.builtin "object.__class__") = some true) (hm : PySem.W.mroIn K C (.type "object") = some true) (cl : PySem.W.isClsIn K C = true) (t : Owns K mg r) : Owns K mg (n :: r) := .cons (PySem.W.mg_of X G a) ⟨⟨ga, gg, ex, hd⟩, ha, hn, ht, hm, cl⟩ t
theorem fts_mk {n f : Str} {r : List (Str × Str)} {C : Addr} (X : K.In h) (G : h.Ns mainGlobals mg) (a : PySem.W.nsIn K mainGlobals n = some (some (.ref C))) (ga : PySem.W.findIn K (.ref C) "__getattribute__" = some (some (.builtin "BaseException.__getattribute__"))) (gg : PySem.W.findIn K (.ref C) "__getattr__" = some none)
    (ex : PySem.W.subIn K (.ref C) (.type "BaseException") = some true) (hd : PySem.W.hasDictIn K C = true) (no : PySem.W.findIn K (.ref C) f = some none) (t : Fts K mg r) : Fts K mg ((n, f) :: r) := .cons (PySem.W.mg_of X G a) ⟨ga, gg, ex, hd⟩ no t
theorem kit_ref {n c : Addr} {b : Bool} (k : PySem.W.isClsIn K c = true) (t : PySem.W.typeIn K (.ref c) = some (.type "type")) (self : PySem.W.subIn K (.ref c) (.ref c) = some true) (bx : PySem.W.subIn K (.ref c) (.type "BaseException") = some true) (s : PySem.W.subIn K (.ref n) (.ref c) = some b) :
    PySem.W.kitOne K (.ref n) (.ref c) = some b ∧ PySem.W.exmOne K (.ref n) (.ref c) = some b := by
  have kc : PySem.W.kitCls K (.ref n) (.ref c) = some b := by
    unfold PySem.W.kitCls
    have k' : (PySem.W.clsIn K c).isSome = true := k
    simp only [k', t, beq_self_eq_true, Bool.and_self, if_true, s]
  constructor
  · unfold PySem.W.kitOne
    split
    · rename_i e
      have e' : n = c := by simpa using e
      subst e'
      rw [self] at s
      cases s
      rfl
    · exact kc
  · unfold PySem.W.exmOne
    simp only [bx, beq_self_eq_true, if_true, kc]
theorem kit_ty {n : Addr} {T : String} {b : Bool} (k : PySem.W.kitMeta T = true) (bx : PySem.W.subIn K (.type T) (.type "BaseException") = some true) (s : PySem.W.subIn K (.ref n) (.type T) = some b) :
    PySem.W.kitOne K (.ref n) (.type T) = some b ∧ PySem.W.exmOne K (.ref n) (.type T) = some b := by
  have kc : PySem.W.kitCls K (.ref n) (.type T) = some b := by
    unfold PySem.W.kitCls
    simp only [k, if_true, s]
  constructor
  · unfold PySem.W.kitOne
    split
    · rename_i e
      simp at e
    · exact kc
  · unfold PySem.W.exmOne
    simp only [bx, beq_self_eq_true, if_true, kc]
theorem tabr_mk {c : Str} {C : Addr} {col : List (Str × Bool)} {r : List (Str × List (Str × Bool))} (X : K.In h) (G : h.Ns mainGlobals mg) (a : PySem.W.nsIn K mainGlobals c = some (some (.ref C))) (k : PySem.W.isClsIn K C = true) (t : PySem.W.typeIn K (.ref C) = some (.type "type"))
    (self : PySem.W.subIn K (.ref C) (.ref C) = some true) (bx : PySem.W.subIn K (.ref C) (.type "BaseException") = some true) (cl : Col K mg (.ref C) col) (tl : Tab K mg r) (db : (c == ("__debug__" : Str)) = false := by decide) : Tab K mg ((c, col) :: r) :=
  .cons ⟨⟨db, .inl (PySem.W.mg_of X G a)⟩, .ref C, .own C, rfl, fun _ _ s => kit_ref k t self bx s⟩ cl tl
theorem tabt_mk {c : Str} {T : String} {col : List (Str × Bool)} {r : List (Str × List (Str × Bool))} (X : K.In h) (G : h.Ns mainGlobals mg) (a : PySem.W.nsIn K mainGlobals c = some none) (bt : bootBuiltins c = some (.type T)) (k : PySem.W.kitMeta T = true) (bx : PySem.W.subIn K (.type T) (.type "BaseException") = some true)
    (cl : Col K mg (.type T) col) (tl : Tab K mg r) (db : (c == ("__debug__" : Str)) = false := by decide) (nn : c ≠ "__name__" := by decide) : Tab K mg ((c, col) :: r) :=
  .cons ⟨⟨db, .inr ⟨PySem.W.mg_none_of X G a, bt, nn⟩⟩, .ty T, .ty T, rfl, fun _ _ s => kit_ty k bx s⟩ cl tl
end
def ftB (ft : List (Str × Str)) (c f : Str) : Bool := ft.contains (c, f)
def ownB (own : List Str) (c : Str) : Bool := own.contains c
def anyM (a b : Option Bool) : Option Bool := match a with
  | some true => some true
  | some false => b
  | none => none
section
variable {X : Cx} {B : Bs} {E : ER} {k : Nat} {x : Str} {fs : List Str} {e : Expr} {es : List Expr} {t : AD} {p pos pos' : Pos} {tab : Str → Str → Option Bool} {own named : List Str} {ft : List (Str × Str)} {c f g n : Str} {y z : D} {σ : Sd} {h : Hd} {Q : KD} {D1 : EndsD} {hs : List HndD} {i : Nat} {a : Addr} {cs : List Str} {xs : List (Str × D)} {b : ER → SD} {ts : Addr → XD → SD}
theorem ds_raiseD (T : ExD X.prog X.K X.mg x fs) (rg : Rg X B E) (hr : Room k X.A) (hk : 2 ≤ k) (ha : DA X B (e :: es) t) (hg : Gl X x := by rfl)
    (hdb : (x == ("__debug__" : Str)) = false := by decide) (he : starEach (e :: es) X.env = (false, eval e X.env) :: starEach es X.env := by rfl) (hpl : (backTo pos (starEach es X.env)).any (·.1) = false := by rfl) :
    DS X B (.Raise (some (.Call (.Name x p) (e :: es) [] pos)) none pos') (dRaise x fs E t) := by
  obtain ⟨C, T⟩ := T
  exact ds_raise (T X.w X.base) rg hr hk ha hg hdb he hpl
theorem er_known (T : ErT X.K X.mg tab own ft named) (hc : c ∈ named) : ∃ u, NmV X.mg c u ∧ ∀ n b k, tab n c = some b → X.mg n = some k → PySem.W.exmOne X.K k u = some b := by
  obtain ⟨w, u, m, _, _, kk⟩ := T.named c hc
  exact ⟨u, m, fun n b k h1 h2 => (kk n b k h1 h2).2⟩
theorem dRaise_1 : dRaise x [f] E t D1 σ h = t σ h fun ds h1 => ds.length = 1 ∧ E ⟨x, ([f].zip ds).reverse⟩ σ h1 := rfl
theorem dRaise_2 : dRaise x [f, g] E t D1 σ h = t σ h fun ds h1 => ds.length = 2 ∧ E ⟨x, ([f, g].zip ds).reverse⟩ σ h1 := rfl
theorem zip_1 : ([f].zip [y]).reverse = [(f, y)] := rfl
theorem zip_2 : ([f, g].zip [y, z]).reverse = [(g, z), (f, y)] := rfl
theorem len_1 : ([y].length = 1) = True := by simp
theorem len_2 : ([y, z].length = 2) = True := by simp
theorem dTry_s : dTry b tab hs E D1 σ h = b (hE tab E D1 hs) D1 σ h := rfl
theorem hE_hit_as {xd : XD} (ht : tab xd.cls c = some true) (q : ∀ a, h a = none → ts a xd (dropD (some i) D1) (keepD (some i) σ a) h) : hE tab E D1 ((c, some i, ts) :: hs) xd σ h := ⟨true, ht, fun _ => q, fun z => by cases z⟩
theorem dropD_rt : (dropD (some i) D1).rt = D1.rt := rfl
theorem dropD_nx : (dropD (some i) D1).nx σ h = D1.nx (uS σ i) h := by rw [uS_eq]; rfl
theorem dropD_bk : (dropD (some i) D1).bk σ h = D1.bk (uS σ i) h := by rw [uS_eq]; rfl
theorem dropD_ct : (dropD (some i) D1).ct σ h = D1.ct (uS σ i) h := by rw [uS_eq]; rfl
theorem dropD_no : dropD none D1 = D1 := rfl
theorem keepD_s : keepD (some i) σ a = sS σ i (.v (.ref a)) := by rw [sS_eq]; rfl
theorem keepD_no : keepD none σ a = σ := rfl
theorem dXf_s : dXf i a ⟨c, xs⟩ ft f σ h Q = (gS σ i = some (.v (.ref a)) ∧ ftB ft c f = true ∧ mO (xs.lookup f) fun y => Q y h) := by
  unfold dXf ftB
  rw [List.contains_iff_mem]
  refine propext ⟨fun ⟨h1, h2, y, h3, q⟩ => ⟨h1, h2, by rw [show xs.lookup f = some y from h3, mO_some]; exact q⟩, fun ⟨h1, h2, q⟩ => ⟨h1, h2, ?_⟩⟩
  obtain ⟨y, e, q⟩ := mO_ex q
  exact ⟨y, e, q⟩
theorem dXi_s : dXi i a ⟨c, xs⟩ own tab n σ h Q = (gS σ i = some (.v (.ref a)) ∧ ownB own c = true ∧ mO (tab c n) fun b => Q (.v (.bl b)) h) := by
  unfold dXi ownB
  rw [List.contains_iff_mem]
  refine propext ⟨fun ⟨h1, h2, y, h3, q⟩ => ⟨h1, h2, by rw [show tab c n = some y from h3, mO_some]; exact q⟩, fun ⟨h1, h2, q⟩ => ⟨h1, h2, ?_⟩⟩
  obtain ⟨y, e, q⟩ := mO_ex q
  exact ⟨y, e, q⟩
theorem dXis_s : dXis i a ⟨c, xs⟩ own tab cs σ h Q = (gS σ i = some (.v (.ref a)) ∧ ownB own c = true ∧ mO (anyT tab c cs) fun b => Q (.v (.bl b)) h) := by
  unfold dXis ownB
  rw [List.contains_iff_mem]
  refine propext ⟨fun ⟨h1, h2, y, h3, q⟩ => ⟨h1, h2, by rw [show anyT tab c cs = some y from h3, mO_some]; exact q⟩, fun ⟨h1, h2, q⟩ => ⟨h1, h2, ?_⟩⟩
  obtain ⟨y, e, q⟩ := mO_ex q
  exact ⟨y, e, q⟩
theorem anyT_n : anyT tab c [] = some false := rfl
theorem anyT_c : anyT tab c (n :: cs) = anyM (tab c n) (anyT tab c cs) := by
  show (match tab c n with
    | some true => some true
    | some false => anyT tab c cs
    | none => none) = anyM (tab c n) (anyT tab c cs)
  generalize anyT tab c cs = z
  cases tab c n with
  | none => rfl
  | some b => cases b <;> rfl
theorem anyM_t {o : Option Bool} : anyM (some true) o = some true := rfl
theorem anyM_f {o : Option Bool} : anyM (some false) o = o := rfl
theorem lk_hit : ((f, y) :: xs).lookup f = some y := by simp [List.lookup]
end
def rds13 := (And.intro @dRaise_1 (And.intro @dRaise_2 (And.intro @zip_1 (And.intro @zip_2 (And.intro @len_1 (And.intro @len_2 (And.intro @dTry_s (And.intro @dropD_rt (And.intro @dropD_nx (And.intro @dropD_bk (And.intro @dropD_ct (And.intro @dropD_no (And.intro @keepD_s (And.intro @keepD_no (And.intro @dXf_s (And.intro @dXi_s (And.intro @dXis_s (And.intro @anyT_n (And.intro @anyT_c (And.intro @anyM_t (And.intro @anyM_f (And.intro @lk_hit trivial))))))))))))))))))))))
end DL
namespace DL
open PySem L2
section
variable {X : Cx} {B : Bs} {a b : Str} {h : Hd} {Q : KD}
def ixS (a b : Str) : Option Nat := (Builtin.Str.occurrences a b 0 a.length 1).head?
def mSIndex : MD := fun x ds h Q => match x, ds with
  | .v (.str a), [.v (.str b)] => mO (ixS a b) fun i => Q (.v (.int (i : Nat))) h
  | _, _ => False
theorem dm_sindex : DMt X "str.index" mSIndex := dmt_of mt_sindex fun x xs H Q ⟨dx, ds, h, Qd, rx, rv, rh, q, o⟩ => by
  unfold mSIndex at q
  split at q
  · obtain ⟨i, e, q⟩ := mO_ex q
    cases rx
    cases rv with
    | cons r1 r2 =>
      cases r2; cases r1
      unfold ixS at e
      cases l : Builtin.Str.occurrences _ _ 0 _ 1 with
      | nil => rw [l] at e; cases e
      | cons j r =>
        rw [l] at e
        cases e
        exact ⟨_, _, _, _, rfl, rfl, l, o _ _ _ _ q (Go.refl rh) (.v _)⟩
  · exact q.elim
theorem mSIndex_s : mSIndex (.v (.str a)) [.v (.str b)] h Q = mO (ixS a b) fun i => Q (.v (.int (i : Nat))) h := rfl
end
def ixStr : List Str → Str → Option Nat
  | [], _ => none
  | a :: r, z => if a = z then some 0 else (ixStr r z).map (· + 1)
theorem ixStr_ok : ∀ {l : List Str} {z : Str} {j : Nat}, ixStr l z = some j → l[j]? = some z ∧ ∀ m, m < j → l[m]? ≠ some z
  | [], _, _, e => by cases e
  | a :: r, z, j, e => by
    unfold ixStr at e
    split at e
    · rename_i c
      cases e
      exact ⟨by rw [c]; rfl, fun m hm => absurd hm (Nat.not_lt_zero _)⟩
    · rename_i c
      cases e1 : ixStr r z with
      | none => rw [e1] at e; cases e
      | some k =>
        rw [e1] at e
        cases e
        obtain ⟨h1, h2⟩ := ixStr_ok e1
        refine ⟨by simpa using h1, fun m hm => ?_⟩
        cases m with
        | zero => simpa using c
        | succ m => simpa using h2 m (Nat.lt_of_succ_lt_succ hm)
structure KTp (K : PySem.W.Frag) (mg : Str → Option Value) (x : Str) (d : D) : Prop where
  ex : ∃ p o, mg x = some (.ref p) ∧ K.lookup p = some o ∧ o.cls = .type "tuple" ∧ o.dict = none ∧ ∀ H, Rp K H d (.ref p)
theorem ktp_mk {K : PySem.W.Frag} {h : Heap} {mg : Str → Option Value} (X : K.In h) (G : h.Ns mainGlobals mg) {x : Str} {d : D} {p : Addr} {its : Array Value} {n : Nat} {sl : Array (Option Value)} (a : PySem.W.nsIn K mainGlobals x = some (some (.ref p)))
    (l : K.lookup p = some ⟨.type "tuple", none, .seq its n, sl⟩) (r : Uv K d (.ref p)) : KTp K mg x d := by
  obtain ⟨v, r1, r2⟩ := r
  have e : v = .ref p := by
    cases v with
    | ref q => rw [show p = q from by have : Value.ref p = .ref q := r1; cases this; rfl]
    | non => cases r1
    | bl b => cases r1
    | int i => obtain ⟨t, e⟩ := r1; cases e
    | str i => obtain ⟨t, e⟩ := r1; cases e
    | byt i => obtain ⟨t, e⟩ := r1; cases e
    | flt i => obtain ⟨t, e⟩ := r1; cases e
    | ty i => cases r1
  subst e
  exact ⟨p, _, PySem.W.mg_of X G a, l, rfl, rfl, r2⟩
def kix (d : D) (ds : List D) (h : Hd) (Q : KD) : Prop := match d, ds with
  | .t es, [.v (.str z)] => mO ((strsD es).bind fun ys => ixStr ys z) fun j => Q (.v (.int (j : Nat))) h
  | _, _ => False
theorem kix_ok {d : D} {ds : List D} {h : Hd} {Q : KD} (q : kix d ds h Q) : ∃ es z ys j, d = .t es ∧ ds = [.v (.str z)] ∧ strsD es = some ys ∧ ixStr ys z = some j ∧ Q (.v (.int (j : Nat))) h := by
  unfold kix at q
  split at q
  · obtain ⟨j, ej, q2⟩ := mO_ex q
    obtain ⟨ys, e1, e2⟩ := Option.bind_eq_some_iff.mp ej
    exact ⟨_, _, ys, j, rfl, rfl, e1, e2, q2⟩
  · exact q.elim
def dKix (d : D) (t : AD) : ED := fun σ h Q => t σ h fun ds h1 => kix d ds h1 Q
theorem dKix_s {d : D} {t : AD} {σ : Sd} {h : Hd} {Q : KD} : dKix d t σ h Q = t σ h fun ds h1 => kix d ds h1 Q := rfl
theorem kix_s {es : List D} {z : Str} {h : Hd} {Q : KD} : kix (.t es) [.v (.str z)] h Q = mO ((strsD es).bind fun ys => ixStr ys z) fun j => Q (.v (.int (j : Nat))) h := rfl
section
variable {X : Cx} {B : Bs} {e : Expr} {es : List Expr} {x : Str} {d : D} {t : AD} {px apos cpos : Pos}
theorem de_kix (k : KTp X.K X.mg x d) (ha : DA X B (e :: es) t) (hg : Gl X x := by rfl) (hd : (x == ("__debug__" : Str)) = false := by decide)
    (hbase : attributeBase (.Name x px) "index" X.env (eval (.Name x px) X.env) = eval (.Name x px) X.env := by rfl)
    (hfew : ((backTo cpos (starEach (e :: es) X.env)).all (fun x => !x.1) && (backToKw cpos (keywordEach [] X.env)).all (fun x => x.1.isSome)
      && decide ((e :: es).length + ([] : List Keyword).length + (if ([] : List Keyword).isEmpty then 0 else 1) < 30)) = true := by rfl)
    (hline : (apos.endLine == cpos.line) = true := by rfl) (hs : starEach (e :: es) X.env = (false, eval e X.env) :: starEach es X.env := by rfl) (hplain : (backTo cpos (starEach es X.env)).any (·.1) = false := by rfl) :
    DE X B (.Call (.Attribute (.Name x px) "index" apos) (e :: es) [] cpos) (dKix d t) := by
  obtain ⟨p, o, m, lk, oc, od, rp⟩ := k.ex
  refine PE.imp (pe_bm PySem.F.plainAttrs_tuple PySem.F.slot_tuple_index PySem.F.type_tuple_index mt_tup_index (pe_glob (v := .ref p) hg m rfl hd) ha hbase hfew hline hs hplain) fun σV H QV ⟨σ, h, Q, r0, q, out⟩ => ?_
  refine ⟨.inr (.inl ⟨rfl, o, lk, oc, od⟩), σ, h, _, r0, q, fun ds h1 vs H1 q1 g1 rv _ => ?_⟩
  obtain ⟨es', z, ys, j, rfl, rfl, es1, e2, q2⟩ := kix_ok q1
  obtain ⟨h1', h2'⟩ := ixStr_ok e2
  cases rv with
  | cons r1 r2 =>
    cases r2; cases r1
    have r := rp H1
    rw [strsD_ok es1] at r
    cases r with
    | t sq r =>
      have := rps_strs r
      subst this
      exact ⟨p, ys, z, j, rfl, rfl, sq, h1', h2', out _ h1 _ H1 q2 g1 (.v _)⟩
end
def rds14 := (And.intro @mSIndex_s (And.intro @dKix_s (And.intro @kix_s trivial)))
end DL
namespace DL
open PySem L2
def sD (z : Str) : D := .v (.str z)
def lws : List Str := ["a", "m", "o", "E", "W", "B", "s", "b", "w", "e", "O", "M", "A"]
def rws : List Str := ["bi", "be", "bo", "ib", "ii", "II", "ie", "io", "eb", "ei", "eo", "ob", "oi", "oe", "oo", "OO"]
def bws : List Str := lws.flatMap fun a => lws.map fun b => a ++ b
def wsL (kind : Str) : List Str := if kind = "line" then lws else if kind = "ring" then rws else bws
def c_LINE : D := .v (.str "amoEWBsbweOMA")
def c_RING : D := .t [.v (.str "bi"), .v (.str "be"), .v (.str "bo"), .v (.str "ib"), .v (.str "ii"), .v (.str "II"), .v (.str "ie"), .v (.str "io"), .v (.str "eb"), .v (.str "ei"), .v (.str "eo"), .v (.str "ob"), .v (.str "oi"), .v (.str "oe"), .v (.str "oo"), .v (.str "OO")]
def c_KINDS : D := .t [.v (.str "line"), .v (.str "ring"), .v (.str "box")]
def k_BACK : List (Str × D) := [("a", .v (.str "A")), ("m", .v (.str "M")), ("o", .v (.str "O")), ("E", .v (.str "e")), ("W", .v (.str "w")), ("B", .v (.str "b")), ("s", .v (.str "s")), ("b", .v (.str "B")), ("w", .v (.str "W")), ("e", .v (.str "E")), ("O", .v (.str "o")), ("M", .v (.str "m")), ("A", .v (.str "a"))]
theorem ring_D : c_RING = .t (rws.map sD) := by decide
theorem chars_LINE : chars "amoEWBsbweOMA" = lws.map sD := by decide
theorem nf {h : Hd} {a b : Addr} {o : O} (e : put h a o b = none) : b ≠ a := fun z => by rw [z, put_same] at e; cases e
theorem fo {h : Hd} {a b : Addr} {o : O} (e : put h a o b = none) : h b = none := by rw [put_ne (nf e)] at e; exact e
theorem on {h : Hd} {a b : Addr} {o : O} (x : h a = some o) (e : h b = none) : a ≠ b := fun z => by rw [z, e] at x; cases x
theorem sub_put {h h' : Hd} {a : Addr} {o : O} (s : Sub h h') (e : h' a = some o) : Sub (put h a o) h' := fun b u eb => by
  by_cases z : b = a
  · subst z; rw [put_same] at eb; cases eb; exact e
  · rw [put_ne z] at eb; exact s b u eb
def SubX (p : Addr) (h h' : Hd) : Prop := ∀ a o, a ≠ p → h a = some o → h' a = some o
theorem SubX.refl (p : Addr) (h : Hd) : SubX p h h := fun _ _ _ e => e
theorem SubX.new {p l : Addr} {h h' : Hd} {o : O} (s : SubX p h h') (n : h' l = none) : SubX p h (put h' l o) := fun a u na e => Sub.put n a u (s a u na e)
theorem SubX.set {p : Addr} {h h' : Hd} {o : O} (s : SubX p h h') : SubX p h (put h' p o) := fun a u na e => by rw [put_ne na]; exact s a u na e
theorem SubX.fin {p : Addr} {h h' : Hd} {o : O} (s : SubX p h h') (e : h' p = some o) : Sub (put h p o) h' := fun b u eb => by
  by_cases z : b = p
  · subst z; rw [put_same] at eb; cases eb; exact e
  · rw [put_ne z] at eb; exact s b u z eb
theorem SubX.trans {p : Addr} {h h1 h2 : Hd} (a : SubX p h h1) (b : SubX p h1 h2) : SubX p h h2 := fun c o n e => b c o n (a c o n e)
theorem SubX.sub {p : Addr} {h h1 h2 : Hd} (a : SubX p h h1) (b : Sub h1 h2) : SubX p h h2 := fun c o n e => b c o (a c o n e)
def one (c : Nat) : Str := ⟨#[c]⟩
def lnC : List Nat := ("amoEWBsbweOMA" : Str).cps.toList
theorem lws_one : lws = lnC.map one := by decide
theorem one_inj {c d : Nat} (h : one c = one d) : c = d := by
  have : (one c).cps.toList = (one d).cps.toList := by rw [h]
  exact (List.cons.inj this).1
theorem one_lws {c : Nat} : one c ∈ lws ↔ c ∈ lnC := by
  rw [lws_one]
  constructor
  · intro h
    obtain ⟨d, hd, e⟩ := List.mem_map.mp h
    rw [← one_inj e]; exact hd
  · exact fun h => List.mem_map_of_mem h
theorem strIn_one (c : Nat) (z : Str) : strIn ⟨#[c]⟩ z = decide (c ∈ z.cps.toList) := StrLaws.found_one z c
theorem strIn_LINE (c : Nat) : strIn ⟨#[c]⟩ "amoEWBsbweOMA" = decide (c ∈ lnC) := strIn_one c _
theorem str_ext {a b : Str} (h : a.cps.toList = b.cps.toList) : a = b := by
  cases a; cases b
  exact congrArg _ (Array.toList_inj.mp h)
theorem len_one {w : Str} (h : w.length = 1) : ∃ c, w = one c ∧ w.cps.toList = [c] := by
  have h : w.cps.toList.length = 1 := by rw [Array.length_toList]; exact h
  match e : w.cps.toList, h with
  | [c], _ => exact ⟨c, str_ext e, rfl⟩
theorem len_two {w : Str} (h : w.length = 2) : ∃ c d, w = one c ++ one d ∧ w.cps.toList = [c, d] := by
  have h : w.cps.toList.length = 2 := by rw [Array.length_toList]; exact h
  match e : w.cps.toList, h with
  | [c, d], _ => exact ⟨c, d, str_ext e, rfl⟩
theorem bws_two {c d : Nat} : one c ++ one d ∈ bws ↔ c ∈ lnC ∧ d ∈ lnC := by
  unfold bws
  rw [List.mem_flatMap]
  constructor
  · rintro ⟨a, ha, h⟩
    obtain ⟨b, hb, e⟩ := List.mem_map.mp h
    rw [lws_one] at ha hb
    obtain ⟨x, hx, rfl⟩ := List.mem_map.mp ha
    obtain ⟨y, hy, rfl⟩ := List.mem_map.mp hb
    have : (one x ++ one y).cps.toList = (one c ++ one d).cps.toList := by rw [e]
    have : [x, y] = [c, d] := this
    cases this
    exact ⟨hx, hy⟩
  · rintro ⟨hc, hd⟩
    exact ⟨one c, one_lws.mpr hc, List.mem_map.mpr ⟨one d, one_lws.mpr hd, rfl⟩⟩
theorem bws_len : ∀ w ∈ bws, w.length = 2 := by decide +kernel
theorem lws_len : ∀ w ∈ lws, w.length = 1 := by decide +kernel
theorem cutS_len (a : Str) (lo hi : Option Int) : (cutS a lo hi).length ≤ a.length := by
  have e : ∀ x : Str, x.cps.toList.length = x.length := fun x => Array.length_toList
  rw [← e, ← e]
  unfold cutS
  show (List.take _ _).length ≤ _
  rw [List.length_take, List.length_drop]
  omega
theorem at_list {l : List Str} {k : Int} (k0 : 0 ≤ k) (k1 : k < (l.length : Int)) : ∃ z ∈ l, atI (l.map sD) k = some (sD z) := by
  obtain ⟨j, rfl⟩ := Int.eq_ofNat_of_zero_le k0
  have hj : j < l.length := by omega
  exact ⟨l[j], List.getElem_mem hj, atI_nat (by rw [List.getElem?_map, List.getElem?_eq_getElem hj]; rfl)⟩
theorem inL_sD {w : Str} : ∀ {l : List Str}, inL (.v (.str w)) (l.map sD) = decide (w ∈ l)
  | [] => by simp [inL]
  | a :: r => by
    have ih := inL_sD (w := w) (l := r)
    unfold inL at ih ⊢
    rw [List.map_cons, List.any_cons, ih]
    by_cases e : a = w
    · subst e
      have : eqD (sD a) (.v (.str a)) = true := by unfold sD eqD; exact eqV_str.trans (by simp)
      rw [this]; simp
    · have : eqD (sD a) (.v (.str w)) = false := by unfold sD eqD; exact eqV_str.trans (by simp [e])
      rw [this, Bool.false_or]
      have e' : w ≠ a := fun z => e z.symm
      simp [e']
def onS (f : Str → Str) : D → D
  | .v (.str z) => .v (.str (f z))
  | d => d
theorem onS_sD (f : Str → Str) (l : List Str) : (l.map sD).map (onS f) = (l.map f).map sD := by rw [List.map_map, List.map_map]; rfl
theorem kds_or {kind : Str} (h : kind ∈ kds) : kind = "line" ∨ kind = "ring" ∨ kind = "box" := by
  simpa [kds] using h
theorem ws_line : wsL "line" = lws := rfl
theorem ws_ring : wsL "ring" = rws := by decide
theorem ws_box : wsL "box" = bws := by decide +kernel
def sp_is_way : SpD := fun ds h Q _ => ds.length = 2 ∧ ∃ kind w : Str, ds = [.v (.str kind), .v (.str w)] ∧ kind ∈ kds ∧ w.length ≤ 1000 ∧ Q (.v (.bl (decide (w ∈ wsL kind)))) h
def rd_is_way (E : ER) : SD :=
  dSeq (dIfS (dTest (d2 pEqA (dVar 0) (dC (.v (.str "line"))))) (dRet (dAndV (d2 pEqA (dCB cLen (dCons (dVar 1) (dNil))) (dC (.v (.int 1)))) (d2 pMem (dVar 1) (dC c_LINE)))) (dNext))
  (dSeq (dIfS (dTest (d2 pEqA (dVar 0) (dC (.v (.str "ring"))))) (dRet (d2 pMem (dVar 1) (dC c_RING))) (dNext))
  (dRet (dAndV (d2 pEqA (dCB cLen (dCons (dVar 1) (dNil))) (dC (.v (.int 2)))) (dAndV (d2 pMem (d2 pIt (dVar 1) (dC (.v (.int 0)))) (dC c_LINE)) (d2 pMem (d2 pIt (dVar 1) (dC (.v (.int 1)))) (dC c_LINE))))))
abbrev N_is_way : List Str := ["kind", "word"]
theorem ok_is_way : ∀ ds h Q E, sp_is_way ds h Q E → rd_is_way (fun x _ h' => E x h') (fin Q) (startD N_is_way ds) h := by
  rintro ds h Q E ⟨_, kind, w, rfl, hk, hl, q⟩
  show rd_is_way _ _ [some (.v (.str kind)), some (.v (.str w))] h
  unfold rd_is_way
  have l1000 : (1000 : Nat) ≤ sizeLine := by decide
  have hz : w.length ≤ sizeLine := Nat.le_trans hl l1000
  rcases kds_or hk with rfl | rfl | rfl
  · try simp -dsimp -implicitDefEqProofs only [↓rds13, ↓rds14, ↓rds1, ↓rds2, ↓rds3, ↓rds4, ↓rds5, ↓rds6, ↓rds7, ↓rds8, ↓rds9, ↓rds10, ↓rds11, List.set_cons_zero, List.set_cons_succ, ne_eq, not_false_eq_true, decide_eq_true_eq, Bool.or_true, Bool.or_false, Bool.true_or, Bool.false_or, Bool.and_true, Bool.true_and, Bool.and_false, Bool.false_and, Bool.not_true, Bool.not_false, reduceCtorEq, beq_self_eq_true, true_and, and_true, c_LINE]
    refine ⟨hz, dIte_by (fun e => ?_) fun e => ?_⟩
    · obtain ⟨c, rfl, _⟩ := len_one (w := w) (by omega)
      try simp -dsimp -implicitDefEqProofs only [↓rds13, ↓rds14, ↓rds1, ↓rds2, ↓rds3, ↓rds4, ↓rds5, ↓rds6, ↓rds7, ↓rds8, ↓rds9, ↓rds10, ↓rds11, List.set_cons_zero, List.set_cons_succ, ne_eq, not_false_eq_true, decide_eq_true_eq, Bool.or_true, Bool.or_false, Bool.true_or, Bool.false_or, Bool.and_true, Bool.true_and, Bool.and_false, Bool.false_and, Bool.not_true, Bool.not_false, reduceCtorEq, beq_self_eq_true, true_and, and_true, c_LINE]
      rw [show strIn (one c) "amoEWBsbweOMA" = decide (one c ∈ wsL "line") from (strIn_LINE c).trans (by rw [ws_line]; exact decide_eq_decide.mpr one_lws.symm)]
      exact finR q
    · have : decide (w ∈ wsL "line") = false := by
        rw [ws_line]
        exact decide_eq_false fun hw => e (by rw [lws_len w hw]; rfl)
      rw [this] at q
      try simp -dsimp -implicitDefEqProofs only [↓rds13, ↓rds14, ↓rds1, ↓rds2, ↓rds3, ↓rds4, ↓rds5, ↓rds6, ↓rds7, ↓rds8, ↓rds9, ↓rds10, ↓rds11, List.set_cons_zero, List.set_cons_succ, ne_eq, not_false_eq_true, decide_eq_true_eq, Bool.or_true, Bool.or_false, Bool.true_or, Bool.false_or, Bool.and_true, Bool.true_and, Bool.and_false, Bool.false_and, Bool.not_true, Bool.not_false, reduceCtorEq, beq_self_eq_true, true_and, and_true]
      exact finR q
  · try simp -dsimp -implicitDefEqProofs only [↓rds13, ↓rds14, ↓rds1, ↓rds2, ↓rds3, ↓rds4, ↓rds5, ↓rds6, ↓rds7, ↓rds8, ↓rds9, ↓rds10, ↓rds11, List.set_cons_zero, List.set_cons_succ, ne_eq, not_false_eq_true, decide_eq_true_eq, Bool.or_true, Bool.or_false, Bool.true_or, Bool.false_or, Bool.and_true, Bool.true_and, Bool.and_false, Bool.false_and, Bool.not_true, Bool.not_false, reduceCtorEq, beq_self_eq_true, true_and, and_true, rl, ring_D, inL_sD]
    rw [ws_ring] at q
    exact ⟨rfl, by decide, finR q⟩
  · try simp -dsimp -implicitDefEqProofs only [↓rds13, ↓rds14, ↓rds1, ↓rds2, ↓rds3, ↓rds4, ↓rds5, ↓rds6, ↓rds7, ↓rds8, ↓rds9, ↓rds10, ↓rds11, List.set_cons_zero, List.set_cons_succ, ne_eq, not_false_eq_true, decide_eq_true_eq, Bool.or_true, Bool.or_false, Bool.true_or, Bool.false_or, Bool.and_true, Bool.true_and, Bool.and_false, Bool.false_and, Bool.not_true, Bool.not_false, reduceCtorEq, beq_self_eq_true, true_and, and_true, bl, br]
    refine ⟨hz, dIte_by (fun e => ?_) fun e => ?_⟩
    · obtain ⟨c, d, rfl, e2⟩ := len_two (w := w) (by omega)
      have q : Q (.v (.bl (decide (c ∈ lnC ∧ d ∈ lnC)))) h := by
        have := q
        rw [ws_box, decide_eq_decide.mpr (bws_two (c := c) (d := d))] at this
        exact this
      have e0 : atI (one c ++ one d).cps.toList 0 = some c := by rw [e2]; exact atI_nat (j := 0) rfl
      have e1 : atI (one c ++ one d).cps.toList 1 = some d := by rw [e2]; exact atI_nat (j := 1) rfl
      have l2 : (2 : Nat) ≤ sizeLine := by decide
      try simp -dsimp -implicitDefEqProofs only [↓rds13, ↓rds14, ↓rds1, ↓rds2, ↓rds3, ↓rds4, ↓rds5, ↓rds6, ↓rds7, ↓rds8, ↓rds9, ↓rds10, ↓rds11, List.set_cons_zero, List.set_cons_succ, ne_eq, not_false_eq_true, decide_eq_true_eq, Bool.or_true, Bool.or_false, Bool.true_or, Bool.false_or, Bool.and_true, Bool.true_and, Bool.and_false, Bool.false_and, Bool.not_true, Bool.not_false, reduceCtorEq, beq_self_eq_true, true_and, and_true, c_LINE, e0, strIn_LINE]
      refine ⟨hz, dIte_by (fun e3 => ?_) fun e3 => ?_⟩
      · try simp -dsimp -implicitDefEqProofs only [↓rds13, ↓rds14, ↓rds1, ↓rds2, ↓rds3, ↓rds4, ↓rds5, ↓rds6, ↓rds7, ↓rds8, ↓rds9, ↓rds10, ↓rds11, List.set_cons_zero, List.set_cons_succ, ne_eq, not_false_eq_true, decide_eq_true_eq, Bool.or_true, Bool.or_false, Bool.true_or, Bool.false_or, Bool.and_true, Bool.true_and, Bool.and_false, Bool.false_and, Bool.not_true, Bool.not_false, reduceCtorEq, beq_self_eq_true, true_and, and_true, c_LINE, e1, strIn_LINE]
        refine ⟨hz, ?_⟩
        rw [show decide (d ∈ lnC) = decide (c ∈ lnC ∧ d ∈ lnC) from decide_eq_decide.mpr ⟨fun h => ⟨by simpa using e3, h⟩, fun h => h.2⟩]
        exact finR q
      · have : decide (c ∈ lnC ∧ d ∈ lnC) = false := decide_eq_false fun h => e3 (by simpa using h.1)
        rw [this] at q
        try simp -dsimp -implicitDefEqProofs only [↓rds13, ↓rds14, ↓rds1, ↓rds2, ↓rds3, ↓rds4, ↓rds5, ↓rds6, ↓rds7, ↓rds8, ↓rds9, ↓rds10, ↓rds11, List.set_cons_zero, List.set_cons_succ, ne_eq, not_false_eq_true, decide_eq_true_eq, Bool.or_true, Bool.or_false, Bool.true_or, Bool.false_or, Bool.and_true, Bool.true_and, Bool.and_false, Bool.false_and, Bool.not_true, Bool.not_false, reduceCtorEq, beq_self_eq_true, true_and, and_true]
        exact finR q
    · have : decide (w ∈ wsL "box") = false := by
        rw [ws_box]
        exact decide_eq_false fun hw => e (by rw [bws_len w hw]; rfl)
      rw [this] at q
      try simp -dsimp -implicitDefEqProofs only [↓rds13, ↓rds14, ↓rds1, ↓rds2, ↓rds3, ↓rds4, ↓rds5, ↓rds6, ↓rds7, ↓rds8, ↓rds9, ↓rds10, ↓rds11, List.set_cons_zero, List.set_cons_succ, ne_eq, not_false_eq_true, decide_eq_true_eq, Bool.or_true, Bool.or_false, Bool.true_or, Bool.false_or, Bool.and_true, Bool.true_and, Bool.and_false, Bool.false_and, Bool.not_true, Bool.not_false, reduceCtorEq, beq_self_eq_true, true_and, and_true]
      exact finR q
def sp_ways : SpD := fun ds h Q E => ds.length = 1 ∧ ∃ kind : Str, ds = [.v (.str kind)] ∧ (kind ∈ kds → Q (.t ((wsL kind).map sD)) h) ∧ (kind ∉ kds → E ⟨"UnknownKind", [("kind", .v (.str kind))]⟩ h)
def rd_ways (E : ER) : SD :=
  dSeq (dIfS (dTest (d2 pEqA (dVar 0) (dC (.v (.str "line"))))) (dRet (dCB cTuple (dCons (dCB cList (dCons (dC c_LINE) (dNil))) (dNil)))) (dNext))
  (dSeq (dIfS (dTest (d2 pEqA (dVar 0) (dC (.v (.str "ring"))))) (dRet (dCB cTuple (dCons (dCB cList (dCons (dC c_RING) (dNil))) (dNil)))) (dNext))
  (dSeq (dIfS (dTest (d2 pEqA (dVar 0) (dC (.v (.str "box"))))) (dRet (dCB cTuple (dCons (dLc2 (iAnyD (dC c_LINE)) (nG 1) (dYes) (iAnyD (dC c_LINE)) (nG 2) (dYes) (d2 pAdd (dVar 1) (dVar 2)) [1, 2] [2]) (dNil)))) (dNext))
  (dRaise "UnknownKind" ["kind"] E (dCons (dVar 0) (dNil)))))
abbrev N_ways : List Str := ["kind", "one", "other"]
theorem ok_ways : ∀ ds h Q E, sp_ways ds h Q E → rd_ways (fun x _ h' => E x h') (fin Q) (startD N_ways ds) h := by
  rintro ds h Q E ⟨_, kind, rfl, q, ex⟩
  show rd_ways _ _ [some (.v (.str kind)), none, none] h
  unfold rd_ways
  by_cases k1 : kind = "line"
  · subst k1
    try simp -dsimp -implicitDefEqProofs only [↓rds13, ↓rds14, ↓rds1, ↓rds2, ↓rds3, ↓rds4, ↓rds5, ↓rds6, ↓rds7, ↓rds8, ↓rds9, ↓rds10, ↓rds11, List.set_cons_zero, List.set_cons_succ, ne_eq, not_false_eq_true, decide_eq_true_eq, Bool.or_true, Bool.or_false, Bool.true_or, Bool.false_or, Bool.and_true, Bool.true_and, Bool.and_false, Bool.false_and, Bool.not_true, Bool.not_false, reduceCtorEq, beq_self_eq_true, true_and, and_true, c_LINE, chars_LINE]
    refine ⟨by decide, al_i fun p hp => ?_⟩
    try simp -dsimp -implicitDefEqProofs only [↓rds13, ↓rds14, ↓rds1, ↓rds2, ↓rds3, ↓rds4, ↓rds5, ↓rds6, ↓rds7, ↓rds8, ↓rds9, ↓rds10, ↓rds11, List.set_cons_zero, List.set_cons_succ, ne_eq, not_false_eq_true, decide_eq_true_eq, Bool.or_true, Bool.or_false, Bool.true_or, Bool.false_or, Bool.and_true, Bool.true_and, Bool.and_false, Bool.false_and, Bool.not_true, Bool.not_false, reduceCtorEq, beq_self_eq_true, true_and, and_true, chars_LINE]
    exact finI (Sub.put hp) (q (by decide))
  by_cases k2 : kind = "ring"
  · subst k2
    try simp -dsimp -implicitDefEqProofs only [↓rds13, ↓rds14, ↓rds1, ↓rds2, ↓rds3, ↓rds4, ↓rds5, ↓rds6, ↓rds7, ↓rds8, ↓rds9, ↓rds10, ↓rds11, List.set_cons_zero, List.set_cons_succ, ne_eq, not_false_eq_true, decide_eq_true_eq, Bool.or_true, Bool.or_false, Bool.true_or, Bool.false_or, Bool.and_true, Bool.true_and, Bool.and_false, Bool.false_and, Bool.not_true, Bool.not_false, reduceCtorEq, beq_self_eq_true, true_and, and_true, rl, ring_D]
    refine al_i fun p hp => ?_
    try simp -dsimp -implicitDefEqProofs only [↓rds13, ↓rds14, ↓rds1, ↓rds2, ↓rds3, ↓rds4, ↓rds5, ↓rds6, ↓rds7, ↓rds8, ↓rds9, ↓rds10, ↓rds11, List.set_cons_zero, List.set_cons_succ, ne_eq, not_false_eq_true, decide_eq_true_eq, Bool.or_true, Bool.or_false, Bool.true_or, Bool.false_or, Bool.and_true, Bool.true_and, Bool.and_false, Bool.false_and, Bool.not_true, Bool.not_false, reduceCtorEq, beq_self_eq_true, true_and, and_true]
    exact finI (Sub.put hp) (q (by decide))
  by_cases k3 : kind = "box"
  · subst k3
    try simp -dsimp -implicitDefEqProofs only [↓rds13, ↓rds14, ↓rds1, ↓rds2, ↓rds3, ↓rds4, ↓rds5, ↓rds6, ↓rds7, ↓rds8, ↓rds9, ↓rds10, ↓rds11, List.set_cons_zero, List.set_cons_succ, ne_eq, not_false_eq_true, decide_eq_true_eq, Bool.or_true, Bool.or_false, Bool.true_or, Bool.false_or, Bool.and_true, Bool.true_and, Bool.and_false, Bool.false_and, Bool.not_true, Bool.not_false, reduceCtorEq, beq_self_eq_true, true_and, and_true, bl, br, c_LINE, chars_LINE]
    refine cmp2_of (fun x => lws.map fun b => onS (fun a => a ++ b) x) trivial ?_ ?_ ?_
    · decide +kernel
    · intro x hx S N acc hl hS
      obtain ⟨z, hz, rfl⟩ := List.mem_map.mp hx
      have e : ((lws.map sD).map (onS fun b => z ++ b)) = lws.map fun b => onS (fun a => a ++ b) (sD z) := by rw [onS_sD, List.map_map]; rfl
      rw [← e] at hS
      try simp -dsimp -implicitDefEqProofs only [↓rds13, ↓rds14, ↓rds1, ↓rds2, ↓rds3, ↓rds4, ↓rds5, ↓rds6, ↓rds7, ↓rds8, ↓rds9, ↓rds10, ↓rds11, List.set_cons_zero, List.set_cons_succ, ne_eq, not_false_eq_true, decide_eq_true_eq, Bool.or_true, Bool.or_false, Bool.true_or, Bool.false_or, Bool.and_true, Bool.true_and, Bool.and_false, Bool.false_and, Bool.not_true, Bool.not_false, reduceCtorEq, beq_self_eq_true, true_and, and_true, sD, c_LINE, chars_LINE]
      refine comp_map (items := lws.map sD) (onS fun b => z ++ b) trivial ?_ ?_ hS
      · rw [List.length_map] at hl ⊢; exact hl
      · intro y hy S N hS
        obtain ⟨v, hv, rfl⟩ := List.mem_map.mp hy
        try simp -dsimp -implicitDefEqProofs only [↓rds13, ↓rds14, ↓rds1, ↓rds2, ↓rds3, ↓rds4, ↓rds5, ↓rds6, ↓rds7, ↓rds8, ↓rds9, ↓rds10, ↓rds11, List.set_cons_zero, List.set_cons_succ, ne_eq, not_false_eq_true, decide_eq_true_eq, Bool.or_true, Bool.or_false, Bool.true_or, Bool.false_or, Bool.and_true, Bool.true_and, Bool.and_false, Bool.false_and, Bool.not_true, Bool.not_false, reduceCtorEq, beq_self_eq_true, true_and, and_true, sD]
        refine ⟨?_, hS⟩
        rw [lws_len z hz, lws_len v hv]
        decide
    intro p hp
    try simp -dsimp -implicitDefEqProofs only [↓rds13, ↓rds14, ↓rds1, ↓rds2, ↓rds3, ↓rds4, ↓rds5, ↓rds6, ↓rds7, ↓rds8, ↓rds9, ↓rds10, ↓rds11, List.set_cons_zero, List.set_cons_succ, ne_eq, not_false_eq_true, decide_eq_true_eq, Bool.or_true, Bool.or_false, Bool.true_or, Bool.false_or, Bool.and_true, Bool.true_and, Bool.and_false, Bool.false_and, Bool.not_true, Bool.not_false, reduceCtorEq, beq_self_eq_true, true_and, and_true]
    rw [show (lws.map sD).flatMap (fun x => lws.map fun b => onS (fun a => a ++ b) x) = (wsL "box").map sD from by decide +kernel]
    exact finI (Sub.put hp) (q (by decide))
  try simp -dsimp -implicitDefEqProofs only [↓rds13, ↓rds14, ↓rds1, ↓rds2, ↓rds3, ↓rds4, ↓rds5, ↓rds6, ↓rds7, ↓rds8, ↓rds9, ↓rds10, ↓rds11, List.set_cons_zero, List.set_cons_succ, ne_eq, not_false_eq_true, decide_eq_true_eq, Bool.or_true, Bool.or_false, Bool.true_or, Bool.false_or, Bool.and_true, Bool.true_and, Bool.and_false, Bool.false_and, Bool.not_true, Bool.not_false, reduceCtorEq, beq_self_eq_true, true_and, and_true, k1, k2, k3]
  exact ex (by simp [kds, k1, k2, k3])
def lkI (l : List (Str × (Int × Int))) (z : Str) : Int × Int := match l with
  | [] => (0, 0)
  | (k, d) :: r => if z = k then d else lkI r z
def samp (w : Str) : Int × Int := lkI [("bi", (0, 1)), ("be", (0, 3)), ("bo", (0, 4)), ("ib", (1, 0)), ("ii", (1, 2)), ("II", (2, 1)), ("ie", (1, 3)), ("io", (1, 4)), ("eb", (3, 0)), ("ei", (3, 1)), ("eo", (3, 4)), ("ob", (4, 0)), ("oi", (4, 1)), ("oe", (4, 3)), ("oo", (4, 5)), ("OO", (5, 4))] w
def getS (kvs : List (Str × D)) (z : Str) : Str := match lkS kvs z with
  | some (.v (.str y)) => y
  | _ => ""
def signs (w : Str) : List Str := w.cps.toList.map one
def overS (kvs : List (Str × D)) (w : Str) : Str := Txt.join "" ((signs w).map (getS kvs))
def bkF (kind w : Str) : Str := if kind = "ring" then cw (samp w).1 (samp w).2 0 3 else overS k_BACK w
theorem split_rws : (Txt.split "bi be bo ib ii II ie io eb ei eo ob oi oe oo OO" " ").map (fun z => D.v (.str z)) = rws.map sD := by decide +kernel
theorem tk_len : ∀ i < 13, ((lws.take i).flatMap fun a => lws.map fun b => a ++ b).length ≤ 200 := by decide +kernel
def sp_law_ways : SpD := fun ds h Q _ => ds.length = 1 ∧ ∃ kind : Str, ds = [.v (.str kind)] ∧ kind ∈ kds ∧ ∀ p, h p = none → Q (.v (.ref p)) (put h p (.lst ((wsL kind).map sD)))
def rd_law_ways (E : ER) : SD :=
  dSeq (dAsg (dCB cList (dCons (dC (.v (.str "amoEWBsbweOMA"))) (dNil))) (nG 1))
  (dSeq (dIfS (dTest (d2 pEqA (dVar 0) (dC (.v (.str "line"))))) (dRet (dVar 1)) (dNext))
  (dSeq (dIfS (dTest (d2 pEqA (dVar 0) (dC (.v (.str "ring"))))) (dRet (dBM "str" mSplit (dC (.v (.str "bi be bo ib ii II ie io eb ei eo ob oi oe oo OO"))) (dCons (dC (.v (.str " "))) (dNil)))) (dNext))
  (dSeq (dAsg (dLst (dNil)) (nG 2))
  (dSeq (dFor (iAnyD (dVar 1)) (nG 3) (dAsg (d2 pAdd (dVar 2) (dLc (iAnyD (dVar 1)) (nG 4) (dYes) (d2 pAdd (dVar 3) (dVar 4)) [4])) (nG 2)))
  (dRet (dVar 2))))))
abbrev N_law_ways : List Str := ["kind", "line", "found", "one", "other"]
theorem ok_law_ways : ∀ ds h Q E, sp_law_ways ds h Q E → rd_law_ways (fun x _ h' => E x h') (fin Q) (startD N_law_ways ds) h := by
  rintro ds h Q E ⟨_, kind, rfl, hk, q⟩
  show rd_law_ways _ _ [some (.v (.str kind)), none, none, none, none] h
  unfold rd_law_ways
  try simp -dsimp -implicitDefEqProofs only [↓rds13, ↓rds14, ↓rds1, ↓rds2, ↓rds3, ↓rds4, ↓rds5, ↓rds6, ↓rds7, ↓rds8, ↓rds9, ↓rds10, ↓rds11, List.set_cons_zero, List.set_cons_succ, ne_eq, not_false_eq_true, decide_eq_true_eq, Bool.or_true, Bool.or_false, Bool.true_or, Bool.false_or, Bool.and_true, Bool.true_and, Bool.and_false, Bool.false_and, Bool.not_true, Bool.not_false, reduceCtorEq, beq_self_eq_true, true_and, and_true, chars_LINE]
  refine ⟨by decide, al_i fun p hp => ?_⟩
  by_cases k1 : kind = "line"
  · subst k1
    try simp -dsimp -implicitDefEqProofs only [↓rds13, ↓rds14, ↓rds1, ↓rds2, ↓rds3, ↓rds4, ↓rds5, ↓rds6, ↓rds7, ↓rds8, ↓rds9, ↓rds10, ↓rds11, List.set_cons_zero, List.set_cons_succ, ne_eq, not_false_eq_true, decide_eq_true_eq, Bool.or_true, Bool.or_false, Bool.true_or, Bool.false_or, Bool.and_true, Bool.true_and, Bool.and_false, Bool.false_and, Bool.not_true, Bool.not_false, reduceCtorEq, beq_self_eq_true, true_and, and_true]
    exact finR (q p hp)
  by_cases k2 : kind = "ring"
  · subst k2
    try simp -dsimp -implicitDefEqProofs only [↓rds13, ↓rds14, ↓rds1, ↓rds2, ↓rds3, ↓rds4, ↓rds5, ↓rds6, ↓rds7, ↓rds8, ↓rds9, ↓rds10, ↓rds11, List.set_cons_zero, List.set_cons_succ, ne_eq, not_false_eq_true, decide_eq_true_eq, Bool.or_true, Bool.or_false, Bool.true_or, Bool.false_or, Bool.and_true, Bool.true_and, Bool.and_false, Bool.false_and, Bool.not_true, Bool.not_false, reduceCtorEq, beq_self_eq_true, true_and, and_true, rl]
    refine ⟨by decide, by decide, al_i fun r hr => ?_⟩
    have nr := nf hr
    refine finI (hs := put h r (.lst (rws.map sD))) ?_ (q r (fo hr))
    have e : (Txt.split "bi be bo ib ii II ie io eb ei eo ob oi oe oo OO" " ").map (fun z => D.v (V.str z)) = rws.map sD := split_rws
    rw [e]
    exact sub_put ((Sub.put hp).trans (Sub.put hr)) put_same
  try simp -dsimp -implicitDefEqProofs only [↓rds13, ↓rds14, ↓rds1, ↓rds2, ↓rds3, ↓rds4, ↓rds5, ↓rds6, ↓rds7, ↓rds8, ↓rds9, ↓rds10, ↓rds11, List.set_cons_zero, List.set_cons_succ, ne_eq, not_false_eq_true, decide_eq_true_eq, Bool.or_true, Bool.or_false, Bool.true_or, Bool.false_or, Bool.and_true, Bool.true_and, Bool.and_false, Bool.false_and, Bool.not_true, Bool.not_false, reduceCtorEq, beq_self_eq_true, true_and, and_true, k1, k2]
  refine al_i fun l hl => ?_
  try simp -dsimp -implicitDefEqProofs only [↓rds13, ↓rds14, ↓rds1, ↓rds2, ↓rds3, ↓rds4, ↓rds5, ↓rds6, ↓rds7, ↓rds8, ↓rds9, ↓rds10, ↓rds11, List.set_cons_zero, List.set_cons_succ, ne_eq, not_false_eq_true, decide_eq_true_eq, Bool.or_true, Bool.or_false, Bool.true_or, Bool.false_or, Bool.and_true, Bool.true_and, Bool.and_false, Bool.false_and, Bool.not_true, Bool.not_false, reduceCtorEq, beq_self_eq_true, true_and, and_true]
  have npl := nf hl
  have hl0 := fo hl
  have ek : kind = "box" := by
    rcases kds_or hk with e | e | e
    · exact absurd e k1
    · exact absurd e k2
    · exact e
  have gp : put (put h p (.lst (chars "amoEWBsbweOMA"))) l (.lst []) p = some (.lst (lws.map sD)) := by rw [put_ne npl.symm, put_same, chars_LINE]
  try simp -dsimp -implicitDefEqProofs only [↓rds13, ↓rds14, ↓rds1, ↓rds2, ↓rds3, ↓rds4, ↓rds5, ↓rds6, ↓rds7, ↓rds8, ↓rds9, ↓rds10, ↓rds11, List.set_cons_zero, List.set_cons_succ, ne_eq, not_false_eq_true, decide_eq_true_eq, Bool.or_true, Bool.or_false, Bool.true_or, Bool.false_or, Bool.and_true, Bool.true_and, Bool.and_false, Bool.false_and, Bool.not_true, Bool.not_false, reduceCtorEq, beq_self_eq_true, true_and, and_true, gp]
  have len13 : (lws.map sD).length = 13 := rfl
  refine loop_of (fun i σ h' => ∃ f x, σ = [some (.v (.str kind)), some (.v (.ref p)), some (.v (.ref f)), x, none] ∧ h f = none ∧ h' f = some (.lst (((lws.take i).flatMap fun a => lws.map fun b => a ++ b).map sD)) ∧ h' p = some (.lst (lws.map sD)) ∧ Sub h h') ⟨l, none, rfl, hl0, put_same, gp, (Sub.put hp).trans (Sub.put hl)⟩ (fun i σ h' _ ⟨_, _, _, _, _, g, _⟩ => rdL_l g) ?_ ?_
  · rintro i x σ h' hx ⟨f, x0, rfl, hf, gf, gp, sb⟩ N hN
    obtain ⟨z, hz, rfl⟩ : ∃ z, lws[i]? = some z ∧ x = sD z := by
      rw [List.getElem?_map] at hx
      cases e : lws[i]? with
      | none => rw [e] at hx; cases hx
      | some z => rw [e] at hx; cases hx; exact ⟨z, rfl, rfl⟩
    have zl := lws_len z (List.mem_of_getElem? hz)
    try simp -dsimp -implicitDefEqProofs only [↓rds13, ↓rds14, ↓rds1, ↓rds2, ↓rds3, ↓rds4, ↓rds5, ↓rds6, ↓rds7, ↓rds8, ↓rds9, ↓rds10, ↓rds11, List.set_cons_zero, List.set_cons_succ, ne_eq, not_false_eq_true, decide_eq_true_eq, Bool.or_true, Bool.or_false, Bool.true_or, Bool.false_or, Bool.and_true, Bool.true_and, Bool.and_false, Bool.false_and, Bool.not_true, Bool.not_false, reduceCtorEq, beq_self_eq_true, true_and, and_true, sD, gp]
    refine cmp_map (onS fun b => z ++ b) (rdL_l gp) (by decide) ?_ ?_
    · intro y hy S N hS
      obtain ⟨v, hv, rfl⟩ := List.mem_map.mp hy
      try simp -dsimp -implicitDefEqProofs only [↓rds13, ↓rds14, ↓rds1, ↓rds2, ↓rds3, ↓rds4, ↓rds5, ↓rds6, ↓rds7, ↓rds8, ↓rds9, ↓rds10, ↓rds11, List.set_cons_zero, List.set_cons_succ, ne_eq, not_false_eq_true, decide_eq_true_eq, Bool.or_true, Bool.or_false, Bool.true_or, Bool.false_or, Bool.and_true, Bool.true_and, Bool.and_false, Bool.false_and, Bool.not_true, Bool.not_false, reduceCtorEq, beq_self_eq_true, true_and, and_true, sD]
      refine ⟨?_, hS⟩
      rw [zl, lws_len v hv]
      decide
    intro c hc
    have ncf : f ≠ c := on gf hc
    have ncp : p ≠ c := on gp hc
    try simp -dsimp -implicitDefEqProofs only [↓rds13, ↓rds14, ↓rds1, ↓rds2, ↓rds3, ↓rds4, ↓rds5, ↓rds6, ↓rds7, ↓rds8, ↓rds9, ↓rds10, ↓rds11, List.set_cons_zero, List.set_cons_succ, ne_eq, not_false_eq_true, decide_eq_true_eq, Bool.or_true, Bool.or_false, Bool.true_or, Bool.false_or, Bool.and_true, Bool.true_and, Bool.and_false, Bool.false_and, Bool.not_true, Bool.not_false, reduceCtorEq, beq_self_eq_true, true_and, and_true, gf, ncf]
    have hi : i < 13 := by
      rcases Nat.lt_or_ge i 13 with k | k
      · exact k
      · rw [List.getElem?_eq_none (show lws.length ≤ i from k)] at hz; cases hz
    refine ⟨?_, al_i fun r hr => hN _ _ ⟨r, _, rfl, sb.none (fo hr), ?_, ?_, sb.trans ((Sub.put hc).trans (Sub.put hr))⟩⟩
    · rw [List.length_map, List.length_map, List.length_map]
      have := tk_len i hi
      have : (List.flatMap (fun a => List.map (fun b => a ++ b) lws) (List.take i lws)).length + 13 ≤ 213 := by omega
      exact Nat.le_trans this (by decide)
    · rw [put_same, onS_sD, ← List.map_append, List.take_add_one, hz, List.flatMap_append]
      rfl
    · exact Sub.put hr _ _ (Sub.put hc _ _ gp)
  · rintro σ h' ⟨f, x0, rfl, hf, gf, gp, sb⟩
    try simp -dsimp -implicitDefEqProofs only [↓rds13, ↓rds14, ↓rds1, ↓rds2, ↓rds3, ↓rds4, ↓rds5, ↓rds6, ↓rds7, ↓rds8, ↓rds9, ↓rds10, ↓rds11, List.set_cons_zero, List.set_cons_succ, ne_eq, not_false_eq_true, decide_eq_true_eq, Bool.or_true, Bool.or_false, Bool.true_or, Bool.false_or, Bool.and_true, Bool.true_and, Bool.and_false, Bool.false_and, Bool.not_true, Bool.not_false, reduceCtorEq, beq_self_eq_true, true_and, and_true]
    refine finI (hs := put h f (.lst ((wsL kind).map sD))) (sub_put sb ?_) (q f hf)
    rw [gf, ek]
    rfl
theorem ws_ne {kind : Str} (hk : kind ∈ kds) : 0 < (wsL kind).length ∧ (wsL kind).length ≤ 169 := by
  rcases kds_or hk with rfl | rfl | rfl <;> decide +kernel
end DL
namespace DL
open PySem L2
structure KCl (K : PySem.W.Frag) (mg : Str → Option Value) (C : Str) (fs : List Str) : Prop where
  ex : ∃ a, mg C = some (.ref a) ∧ Cls K a ∧ ∀ f ∈ fs, NoAttr K a f
inductive KCls (K : PySem.W.Frag) (mg : Str → Option Value) : List (Str × List Str) → Prop
  | nil : KCls K mg []
  | cons {C : Str} {fs : List Str} {r : List (Str × List Str)} : KCl K mg C fs → KCls K mg r → KCls K mg ((C, fs) :: r)
def clsB : List (Str × List Str) → Str → Str → Bool
  | [], _, _ => false
  | p :: r, C, f => if p.1 = C then p.2.contains f else clsB r C f
theorem KCls.at_ {K : PySem.W.Frag} {mg : Str → Option Value} {C f : Str} : ∀ {tab : List (Str × List Str)}, KCls K mg tab → clsB tab C f = true → ∃ a, mg C = some (.ref a) ∧ Cls K a ∧ NoAttr K a f
  | _, .nil, h => by cases h
  | _, .cons (C := D) (fs := fs) k t, h => by
    unfold clsB at h
    by_cases e : D = C
    · rw [if_pos e] at h
      subst e
      obtain ⟨a, m, c, n⟩ := k.ex
      exact ⟨a, m, c, n f (by simpa using h)⟩
    · rw [if_neg e] at h
      exact t.at_ h
section
variable {X : Cx} {B : Bs} {E : ER}
variable {P : Program} {w : World} {K : PySem.W.Frag} {mg : Str → Option Value} {base : Heap}
structure Dm (K : PySem.W.Frag) (mg : Str → Option Value) (C m qual : Str) (st : Stmt) (ps : List Str) : Prop where
  ex : ∃ a f fd, mg C = some (.ref a) ∧ Cls K a ∧ Meth K a m f ∧ Fun K m qual st f fd ∧ Binds K fd ps []
structure Md (P : Program) (w : World) (K : PySem.W.Frag) (mg : Str → Option Value) (base : Heap) (C m : Str) (k : Nat) (ps : List Str) (sp : SpD) : Prop where
  ex : ∃ a f fd, mg C = some (.ref a) ∧ Cls K a ∧ Meth K a m f ∧ FnD P w K mg base k f fd ps sp ∧ Binds K fd ps []
inductive Mt' (P : Program) (w : World) (K : PySem.W.Frag) (mg : Str → Option Value) (base : Heap) (m : Str) (k : Nat) : List (Str × SpD) → Prop
  | nil : Mt' P w K mg base m k []
  | cons {C : Str} {j : Nat} {ps : List Str} {sp : SpD} {r : List (Str × SpD)} : Md P w K mg base C m j ps sp → j ≤ k → Mt' P w K mg base m k r → Mt' P w K mg base m k ((C, sp) :: r)
theorem Md.of {C m qual : Str} {k : Nat} {ps : List Str} {sp : SpD} {stm : Stmt} {N : List Str} (D : Dm K mg C m qual stm ps) (S : FnScope N ps (defScope stm)) (len : ∀ ds h Q E, sp ds h Q E → ds.length = ps.length) (rd : ER → SD)
    (der : ∀ (f : Addr) (cdv : Value) (A : Around) (outer : List Env) (s : Shared) (H : Hp) (EV : XK) (B : Bs) (E : ER), Rg (cxOf (L2.CX P w) P w K mg base N qual (defScope stm) f cdv A outer s H EV) B E → Room k (A.deeper (PyProof.Rows.envOfC qual (defScope stm) s.heap.objs.size f cdv)) →
      DSs (cxOf (L2.CX P w) P w K mg base N qual (defScope stm) f cdv A outer s H EV) B (defBody stm) (rd E))
    (ok : ∀ ds h Q E, sp ds h Q E → rd (fun x _ h' => E x h') (fin Q) (startD N ds) h) : Md P w K mg base C m (k + 1) ps sp := by
  obtain ⟨a, f, fd, m1, c, mt, F, b⟩ := D.ex
  exact ⟨a, f, fd, m1, c, mt, fn_d F S len rd (der f) ok, b⟩
theorem Md.never {C m qual : Str} {ps : List Str} {stm : Stmt} (D : Dm K mg C m qual stm ps) : Md P w K mg base C m 0 ps (fun _ _ _ _ => False) := by
  obtain ⟨a, f, fd, m1, c, mt, F, b⟩ := D.ex
  exact ⟨a, f, fd, m1, c, mt, ⟨fun _ _ _ _ ⟨_, _, _, _, _, _, h, _⟩ => h.elim, fun _ _ _ _ _ _ _ _ _ _ _ _ _ ⟨_, _, _, _, _, _, h, _⟩ => h.elim⟩, b⟩
theorem Md.imp {C m : Str} {k j : Nat} {ps : List Str} {sp sp' : SpD} (F : Md P w K mg base C m j ps sp) (hj : j ≤ k) (h : ∀ ds h Q E, sp' ds h Q E → sp ds h Q E) : Md P w K mg base C m k ps sp' := by
  obtain ⟨a, f, fd, m1, c, mt, F, b⟩ := F.ex
  exact ⟨a, f, fd, m1, c, mt, (F.mono hj).imp fun vs H Q E ⟨ds, hh, Q', E', a1, a2, a3, a4, a5⟩ => ⟨ds, hh, Q', E', a1, a2, h _ _ _ _ a3, a4, a5⟩, b⟩
def mtO : List (Str × SpD) → Str → Option SpD
  | [], _ => none
  | p :: r, C => if p.1 = C then some p.2 else mtO r C
theorem Mt'.at_ {m C : Str} {k : Nat} {sp : SpD} : ∀ {mt : List (Str × SpD)}, Mt' P w K mg base m k mt → mtO mt C = some sp → ∃ j ps, Md P w K mg base C m j ps sp ∧ j ≤ k
  | _, .nil, e => by cases e
  | _, .cons (C := D) d hj t, e => by
    unfold mtO at e
    by_cases z : D = C
    · rw [if_pos z] at e
      cases e
      subst z
      exact ⟨_, _, d, hj⟩
    · rw [if_neg z] at e
      exact t.at_ e
structure Di (K : PySem.W.Frag) (mg : Str → Option Value) (C qual : Str) (st : Stmt) (ps : List Str) : Prop where
  ex : ∃ a f fd, mg C = some (.ref a) ∧ Mk K a f ∧ Fun K "__init__" qual st f fd ∧ Binds K fd ps []
structure Mi (P : Program) (w : World) (K : PySem.W.Frag) (mg : Str → Option Value) (base : Heap) (C : Str) (k : Nat) (ps : List Str) (sp : SpD) : Prop where
  ex : ∃ a f fd, mg C = some (.ref a) ∧ Mk K a f ∧ FnD P w K mg base k f fd ps sp ∧ Binds K fd ps []
theorem Mi.of {C qual : Str} {k : Nat} {ps : List Str} {sp : SpD} {stm : Stmt} {N : List Str} (D : Di K mg C qual stm ps) (S : FnScope N ps (defScope stm)) (len : ∀ ds h Q E, sp ds h Q E → ds.length = ps.length) (rd : ER → SD)
    (der : ∀ (f : Addr) (cdv : Value) (A : Around) (outer : List Env) (s : Shared) (H : Hp) (EV : XK) (B : Bs) (E : ER), Rg (cxOf (L2.CX P w) P w K mg base N qual (defScope stm) f cdv A outer s H EV) B E → Room k (A.deeper (PyProof.Rows.envOfC qual (defScope stm) s.heap.objs.size f cdv)) →
      DSs (cxOf (L2.CX P w) P w K mg base N qual (defScope stm) f cdv A outer s H EV) B (defBody stm) (rd E))
    (ok : ∀ ds h Q E, sp ds h Q E → rd (fun x _ h' => E x h') (fin Q) (startD N ds) h) : Mi P w K mg base C (k + 1) ps sp := by
  obtain ⟨a, f, fd, m1, mk, F, b⟩ := D.ex
  exact ⟨a, f, fd, m1, mk, fn_d F S len rd (der f) ok, b⟩
end
section
variable {tab : List (Str × List Str)} {f m C : Str} {te tv : ED} {t : AD} {σ : Sd} {h : Hd} {Q : KD} {p : Addr} {fs : List (Str × D)} {y : D} {sp : SpD} {E : ER} {mt : List (Str × SpD)} {QS : SpD → Prop} {Qh : Hd → Prop} {D1 : EndsD} {ds : List D}
theorem mtO_hit {r : List (Str × SpD)} : mtO ((C, sp) :: r) C = some sp := if_pos rfl
end
section
variable {K : PySem.W.Frag} {h : Heap} {mg : Str → Option Value}
inductive NoAs (K : PySem.W.Frag) (a : Addr) : List Str → Prop
  | nil : NoAs K a []
  | cons {f : Str} {r : List Str} : PySem.W.findIn K (.ref a) f = some none → NoAs K a r → NoAs K a (f :: r)
theorem NoAs.all {a : Addr} : ∀ {fs : List Str}, NoAs K a fs → ∀ f ∈ fs, NoAttr K a f
  | _, .nil, f, h => by cases h
  | _, .cons e t, f, h => by
    rcases List.mem_cons.mp h with rfl | h
    · exact e
    · exact t.all f h
end
def rds15 := (And.intro @mtO_hit trivial)
end DL
namespace DL
open PySem L2
section
variable {X : Cx} {B : Bs} {pins : List (Addr × Obj)} {σ : St} {H : Hp} {s : Shared}
variable {o e : Expr} {es : List Expr} {to : ED} {t : AD} {name : Str} {apos cpos : Pos} {id : String} {r : MD}
end
section
variable {to : ED} {t : AD} {r : MD} {σ : Sd} {h : Hd} {Q : KD} {p : Addr} {x y : D}
end
end DL
namespace DL
open PySem L2
structure StbS (H H' : Hp) : Prop where
  tup : ∀ b xs, H b = some (.tup xs) → H' b = some (.tup xs)
  ft : ∀ b o xs, H b = some (.frz o (.tup xs)) → H' b = some (.frz o (.tup xs))
  fl : ∀ b o xs, H b = some (.frz o (.lst xs)) → H' b = some (.frz o (.lst xs))
section
variable {K : PySem.W.Frag} {H H' : Hp}
theorem StbS.sqT (s : StbS H H') {a : Addr} {xs : List V} (h : SqT K H a xs) : SqT K H' a xs := by
  rcases h with (h | ⟨o, h⟩) | h
  · exact .inl (.inl (s.tup _ _ h))
  · exact .inl (.inr ⟨o, s.ft _ _ _ h⟩)
  · exact .inr h
theorem StbS.sqP (s : StbS H H') {a : Addr} {xs : List V} (h : SqP K H a xs) : SqP K H' a xs := ⟨s.sqT h.sq, by
  rcases h.nd with ⟨ob, us, e, d⟩ | h
  · exact .inl ⟨ob, us, s.ft _ _ _ e, d⟩
  · exact .inr h⟩
mutual
theorem Rp.stbS (s : StbS H H') : ∀ {d : D} {x : V}, Rp K H d x → Rp K H' d x
  | _, _, .v x => .v x
  | _, _, .t h r => .t (s.sqP h) (Rps.stbS s r)
  | _, _, .k h r => .k (h.imp (fun ⟨o, e⟩ => ⟨o, s.fl _ _ _ e⟩) id) (Rps.stbS s r)
theorem Rps.stbS (s : StbS H H') : ∀ {ds : List D} {xs : List V}, Rps K H ds xs → Rps K H' ds xs
  | _, _, .nil => .nil
  | _, _, .cons r t => .cons (Rp.stbS s r) (Rps.stbS s t)
end
end
theorem RpK.stbS {κ : Type} {G : Gv} {H H' : Hp} (s : StbS H H') {kvs : List (κ × D)} {vs : List (κ × V)} (r : RpK G H kvs vs) : RpK G H' kvs vs :=
  Paired.mapP r fun _ _ z => ⟨z.1, z.2.stbS s⟩
theorem OkO.stbS {G : Gv} {H H' : Hp} (s : StbS H H') {a : Addr} : ∀ {o : O} {u : HO}, OkO G H a o u → OkO G H' a o u
  | .lst _, _, ⟨vs, e, r⟩ => ⟨vs, e, r.stbS s⟩
  | .dk _, _, ⟨vs, e, r⟩ => ⟨vs, e, r.stbS s⟩
  | .dn _, _, ⟨l, n, xs, e, r⟩ => ⟨l, n, xs, e, Paired.mapP r fun _ _ ⟨h1, h2, h3, v, h4, h5⟩ => ⟨h1, h2, h3.stbS s, v, h4, h5.stbS s⟩⟩
  | .ins _ _, _, ⟨a, dx, vs, m, e, r⟩ => ⟨a, dx, vs, m, e, r.stbS s⟩
def del (h : Hd) (a : Addr) : Hd := fun b => if b = a then none else h b
theorem del_same {h : Hd} {a : Addr} : del h a a = none := if_pos rfl
theorem del_ne {h : Hd} {a b : Addr} (n : b ≠ a) : del h a b = h b := if_neg n
theorem put_del {h : Hd} {a : Addr} {o : O} (e : h a = some o) : put (del h a) a o = h := by
  funext b
  by_cases z : b = a
  · subst z; rw [put_same, e]
  · rw [put_ne z, del_ne z]
section
variable {X : Cx} {B : Bs} {E : ER}
def NFz (X : Cx) (d : Addr) : Prop := ∀ o' u', X.H_0 d ≠ some (.frz o' u')
def orUn (X : Cx) (P : Hp → Prop) (H : Hp) : Prop := P H ∨ ∃ d od u, H d = some (.frz od u) ∧ NFz X d ∧ P (upd H d u)
def unE (X : Cx) (D : Ends) : Ends := ⟨fun σ H => orUn X (D.nx σ) H, fun v H => orUn X (D.rt v) H, fun σ H => orUn X (D.bk σ) H, fun σ H => orUn X (D.ct σ) H⟩
theorem ps_unl {st : Stmt} {t : TS} (h : PS X st t) : PS X st (fun D σ H => t (unE X D) σ H) := ⟨fun pins s σ H D I hw => by
  refine thn (h.run pins s σ _ _ I hw) fun f s1 q => ?_
  cases f with
  | next => obtain ⟨σ', H', I2, q | ⟨d, od, u, e, n, q⟩⟩ := q; exact ⟨σ', _, I2, q⟩; exact ⟨σ', _, I2.unlock e n, q⟩
  | brk => obtain ⟨σ', H', I2, q | ⟨d, od, u, e, n, q⟩⟩ := q; exact ⟨σ', _, I2, q⟩; exact ⟨σ', _, I2.unlock e n, q⟩
  | cont => obtain ⟨σ', H', I2, q | ⟨d, od, u, e, n, q⟩⟩ := q; exact ⟨σ', _, I2, q⟩; exact ⟨σ', _, I2.unlock e n, q⟩
  | ret v => obtain ⟨x, σ', H', I2, r, q | ⟨d, od, u, e, n, q⟩⟩ := q; exact ⟨x, σ', _, I2, r, q⟩; exact ⟨x, σ', _, I2.unlock e n, r, q⟩⟩
def iAnyL (X : Cx) (tl : TE) : TI := fun σ H R => tl σ H fun x H1 => (∃ a, x = .ref a ∧ (∃ xs, SqL X.K H1 a xs) ∧ R (Itl X.K a) H1) ∨ (∃ a, x = .ref a ∧ (∃ xs, SqT X.K H1 a xs) ∧ R (Itt X.K a) H1) ∨ (∃ z, x = .str z ∧ R (Its z) H1) ∨
  ∃ d kvs, x = .ref d ∧ H1 d = some (.dK kvs) ∧ ∀ od, NFz X d → R (Itk d od kvs) (upd H1 d (.frz od (.dK kvs)))
theorem pi_anyL {tg l : Expr} {tl : TE} (hl : PE X l tl) : PI X tg l (iAnyL X tl) := by
  refine ⟨fun pins s σ H R I h => ?_⟩
  refine thn (hl.run pins s σ H _ I h) fun v s1 ⟨x, H1, I1, r1, q1⟩ => ?_
  rcases q1 with ⟨a, e, ⟨xs, hq⟩, q⟩ | ⟨a, e, ⟨xs, hq⟩, q⟩ | ⟨z, e, q⟩ | ⟨d, kvs, e, hd, q⟩
  · subst e
    cases r1
    obtain ⟨its, rv, p, hz⟩ := I1.list hq
    refine PySem.wpAny_pyIter_list p.isList ?_
    refine ⟨s1.heap.objs.size, [s1.heap.objs.size], _, _, H1, rfl, I1.kept (t' := s1.toks) fun b o e => Heap.get?_push_of_some _ e, turn_list a _, ⟨_, Heap.get?_push_size _ rfl, rfl, rfl⟩, fun b hb => ?_, q⟩
    have e : b = s1.heap.objs.size := by simpa using hb
    subst e
    exact I1.fpOk (Nat.le_refl _) (I1.hok.fresh (Nat.le_refl _))
  · subst e
    cases r1
    obtain ⟨its, rv, p, hz⟩ := I1.tuple hq
    refine PySem.wpAny_pyIter_tuple (show s1.heap.IsTuple a its.toArray from p) ?_
    refine ⟨s1.heap.objs.size, [s1.heap.objs.size], _, _, H1, rfl, I1.kept (t' := s1.toks) fun b o e => Heap.get?_push_of_some _ e, turn_tuple a _, ⟨_, Heap.get?_push_size _ rfl, rfl, rfl⟩, fun b hb => ?_, q⟩
    have e : b = s1.heap.objs.size := by simpa using hb
    subst e
    exact I1.fpOk (Nat.le_refl _) (I1.hok.fresh (Nat.le_refl _))
  · subst e
    obtain ⟨t, rfl⟩ := r1
    cases ha : z.cps.all (· < 128)
    · exact PySem.wpAny_pyIter_wide ha (pi_one (tk := s1.toks) I1 _ (turn_str _ z t "str_iterator" (.inr rfl)) ⟨_, Heap.get?_push_size _ rfl, rfl, rfl⟩ q)
    · exact PySem.wpAny_pyIter_ascii ha (pi_one (tk := s1.toks) I1 _ (turn_str _ z t "str_ascii_iterator" (.inl rfl)) ⟨_, Heap.get?_push_size _ rfl, rfl, rfl⟩ q)
  · subst e
    cases r1
    have nf := I1.nofrz hd True.intro
    obtain ⟨od, I2⟩ := I1.lock hd True.intro
    obtain ⟨hs, hgd, hx, es, ep, vs, hdt, hsz, kv, hm⟩ := I2.frzK (d := d) (o := od) (kvs := kvs) upd_same
    refine iter_keys hs hgd hx hdt (pi_one (tk := s1.toks) I2 _ (turn_keys _ hdt) ⟨_, Heap.get?_push_size _ rfl, rfl, ?_⟩ (q od nf))
    rw [hsz] <;> rfl
theorem loop_run {tg iter : Expr} {body : List Stmt} {g : GD} {tb : SD} {chk : Hd → Prop} {items : List D} {J : It} {H1 : Hp} {h1 : Hd} {σ : Sd} {σV : St} {D : EndsD} {DV : Ends} (jo : ItOk X.gv J items chk H1) (r1 : R0 X.gv B σ h1 σV H1) (q1 : dLoop g tb chk items D σ h1) (o : OutS X.gv H1 h1 D DV) :
    ∃ W : Nat → Nat → St → Hp → Prop, (∃ m, W 0 m σV H1) ∧ ∀ i m σ H, W i m σ H →
      (J.stop i H ∧ DV.nx σ H) ∨ (J.go i H ∧ ∃ N : St → Hp → Prop, (∀ σ' H', N σ' H' → ∃ m', m' < m ∧ W (i + 1) m' σ' H') ∧ ∀ x H', J.yld i H x H' → lG X.gv B g x σ H' fun σ2 H2 => lS X.gv B tb { DV with nx := N, ct := N, bk := DV.nx } σ2 H2) := by
  refine ⟨fun i m σV' H' => ∃ σ' h', Go X.gv H1 h1 H' h' ∧ RelS X.gv H' σ' σV' ∧ m = items.length - i ∧ i ≤ items.length ∧ dLoop g tb chk (items.drop i) D σ' h', ⟨items.length, σ, h1, Go.refl r1.h, r1.s, by simp, Nat.zero_le _, by simpa using q1⟩, ?_⟩
  rintro i m σV' H' ⟨σ', h', g2, rs, rfl, hi, ql⟩
  by_cases hlt : i < items.length
  · rw [List.drop_eq_getElem_cons hlt] at ql
    obtain ⟨hc, ql⟩ := ql
    refine .inr ⟨jo.go i H' h' g2.st g2.rh hc hlt, fun σV2 H2 => ∃ σ2 h2, Go X.gv H1 h1 H2 h2 ∧ RelS X.gv H2 σ2 σV2 ∧ dLoop g tb chk (items.drop (i + 1)) D σ2 h2, fun σV2 H2 ⟨σ2, h2, g3, rs3, q3⟩ => ⟨items.length - (i + 1), by omega, σ2, h2, g3, rs3, rfl, hlt, q3⟩, fun x H3 y => ?_⟩
    obtain ⟨d, ed, rd, g3⟩ := jo.yld i H' h' x H3 g2.st g2.rh hc hlt y
    rw [List.getElem?_eq_getElem hlt] at ed
    cases ed
    have g13 := g2.trans g3
    refine ⟨_, σ', h', _, rd, ⟨r1.go.trans g13, rs.stb g3.st⟩, ql, fun σ4 h4 σV4 H4 q4 g4 r4 => ?_⟩
    have g14 := g13.trans g4
    refine ⟨σ4, h4, _, ⟨r1.go.trans g14, r4⟩, q4, ⟨fun σ5 h5 σV5 H5 q5 g5 r5 => ⟨σ5, h5, g14.trans g5, r5, q5⟩, (o.on g14).rt, (o.on g14).nx, fun σ5 h5 σV5 H5 q5 g5 r5 => ⟨σ5, h5, g14.trans g5, r5, q5⟩⟩⟩
  · rw [List.drop_eq_nil_of_le (by omega)] at ql
    obtain ⟨hc, ql⟩ := ql
    exact .inl ⟨jo.stop i H' h' g2.st g2.rh hc (by omega), o.nx σ' h' σV' H' ql g2 rs⟩
def unD (a : Addr) (o : O) (D : EndsD) : EndsD := ⟨fun σ h => D.nx σ (put h a o), fun d h => D.rt d (put h a o), fun σ h => D.bk σ (put h a o), fun σ h => D.ct σ (put h a o)⟩
def keysL (kvs : List (Key × D)) : List D := kvs.map fun p => .v (kV p.1)
def forO (o : Option O) (a : Addr) (g : GD) (body : SD) (D : EndsD) (σ : Sd) (h : Hd) : Prop := match o with
  | some (.lst xs) => dLoop g body (fun h' => rdL h' a = some xs) xs D σ h
  | some (.dk kvs) => dLoop g body (fun _ => True) (keysL kvs) (unD a (.dk kvs) D) σ (del h a)
  | _ => False
def forA (g : GD) (body : SD) (d : D) (D : EndsD) (σ : Sd) (h : Hd) : Prop := match d with
  | .t ds => dLoop g body (fun _ => True) ds D σ h
  | .k ds => dLoop g body (fun _ => True) ds D σ h
  | .v (.str z) => dLoop g body (fun _ => True) (chars z) D σ h
  | .v (.ref a) => forO (h a) a g body D σ h
  | _ => False
def dForA (te : ED) (g : GD) (body : SD) : SD := fun D σ h => te σ h fun d h1 => forA g body d D σ h1
theorem it_keys {G : Gv} {H1 : Hp} {d : Addr} {od : Obj} {kvs : List (Key × D)} {vs : List (Key × V)} (r : RpK G H1 kvs vs) (e : H1 d = some (.frz od (.dK vs))) : ItOk G (Itk d od vs) (keysL kvs) (fun _ => True) H1 where
  go := fun i H h st rh _ hi => ⟨st.frz _ _ _ e, by unfold keysL at hi; rw [List.length_map, r.len] at hi; exact hi⟩
  stop := fun i H h st rh _ hi => ⟨st.frz _ _ _ e, by unfold keysL at hi; rw [List.length_map, r.len] at hi; exact hi⟩
  yld := fun i H h x H' st rh _ hi ⟨eh, k, v, ek, ex⟩ => by
    subst eh ex
    refine ⟨.v (kV k), ?_, .v _, Go.refl rh⟩
    have go : ∀ {kvs : List (Key × D)} {vs : List (Key × V)}, RpK G H1 kvs vs → ∀ {i : Nat}, vs[i]? = some (k, v) → (keysL kvs)[i]? = some (.v (kV k)) := by
      intro kvs vs r
      unfold RpK at r
      induction r with
      | nil => intro i e; simp at e
      | @cons p q ps qs z t ih =>
        intro i e
        cases i with
        | zero =>
          simp at e
          obtain ⟨z1, z2⟩ := z
          subst e
          show some (D.v (kV p.1)) = _
          rw [z1]
        | succ i => exact ih (by simpa using e)
    exact go r ek
theorem outs_un {H : Hp} {h : Hd} {D : EndsD} {DV : Ends} (o : OutS X.gv H h D DV) : OutS X.gv H h D (unE X DV) :=
  ⟨fun σ' h' σV' H' q g r => .inl (o.nx σ' h' σV' H' q g r), fun d h' v H' q g r => .inl (o.rt d h' v H' q g r), fun σ' h' σV' H' q g r => .inl (o.bk σ' h' σV' H' q g r), fun σ' h' σV' H' q g r => .inl (o.ct σ' h' σV' H' q g r)⟩
theorem go_lock {H : Hp} {h : Hd} {a : Addr} {od : Obj} {kvs : List (Key × D)} {vs : List (Key × V)} (rh : RelH X.gv H h) (e : h a = some (.dk kvs)) (hv : H a = some (.dK vs)) :
    RelH X.gv (upd H a (.frz od (.dK vs))) (del h a) := fun b o eb => by
  have nb : b ≠ a := fun z => by subst z; rw [del_same] at eb; cases eb
  rw [del_ne nb] at eb
  obtain ⟨u, hu, ok⟩ := rh b o eb
  refine ⟨u, by rw [upd_ne nb]; exact hu, ok.stb (Stb.set hv trivial)⟩
theorem go_unlock {H H' : Hp} {h h' : Hd} {a : Addr} {od : Obj} {kvs : List (Key × D)} {vs : List (Key × V)} (rh : RelH X.gv H h) (e : h a = some (.dk kvs)) (hv : H a = some (.dK vs)) (r : RpK X.gv H kvs vs)
    (g : Go X.gv (upd H a (.frz od (.dK vs))) (del h a) H' h') : H' a = some (.frz od (.dK vs)) ∧ h' a = none ∧ Go X.gv H h (upd H' a (.dK vs)) (put h' a (.dk kvs)) := by
  have f := g.fr a _ upd_same del_same
  have st0 : Stb H (upd H a (.frz od (.dK vs))) := Stb.set hv trivial
  have sS : StbS H' (upd H' a (.dK vs)) := ⟨fun b xs q => by
      have z : b ≠ a := fun z => by rw [z, f.1] at q; cases q
      rw [upd_ne z]; exact q, fun b o xs q => by
      have z : b ≠ a := fun z => by rw [z, f.1] at q; cases q
      rw [upd_ne z]; exact q, fun b o xs q => by
      have z : b ≠ a := fun z => by rw [z, f.1] at q; cases q
      rw [upd_ne z]; exact q⟩
  refine ⟨f.1, f.2, ⟨⟨fun b xs q => ?_, fun b o u q => ?_⟩, fun b o q n => ?_, fun b o q => ?_⟩⟩
  · have z : b ≠ a := fun z => by rw [z, hv] at q; cases q
    rw [upd_ne z]
    exact g.st.tup b xs (st0.tup b xs q)
  · have z : b ≠ a := fun z => by rw [z, hv] at q; cases q
    rw [upd_ne z]
    exact g.st.frz b o u (st0.frz b o u q)
  · have z : b ≠ a := fun z => by rw [z, e] at n; cases n
    have := g.fr b o (by rw [upd_ne z]; exact q) (by rw [del_ne z]; exact n)
    exact ⟨by rw [upd_ne z]; exact this.1, by rw [put_ne z]; exact this.2⟩
  · by_cases z : b = a
    · subst z
      rw [put_same] at q; cases q
      exact ⟨_, upd_same, vs, rfl, ((r.stb st0).stb g.st).stbS sS⟩
    · rw [put_ne z] at q
      obtain ⟨u, hu, ok⟩ := g.rh b o q
      exact ⟨u, by rw [upd_ne z]; exact hu, ok.stbS sS⟩
theorem ds_forA {tg iter : Expr} {body : List Stmt} {te : ED} {g : GD} {tb : SD} {pos : Pos} (rg : Rg X B E) (hi : DE X B iter te) (hg : DG X B tg g) (hb : DSs X B body tb)
    (hs : ∀ x, foldedSetIterable iter X.env x = pure x := by intro _; rfl) : DS X B (.For tg iter body [] pos) (dForA te g tb) :=
  PS.imp (ps_unl (ps_for rg.po rg.calm (pi_anyL hi) hg hb hs)) fun DV σV H ⟨σ, h, D, r0, q, o⟩ => ⟨σ, h, _, r0, q, fun d h1 v H1 q1 g1 rp => by
    have r1 := r0.next g1
    have o1 := o.on g1
    cases rp with
    | t sq r => exact .inr (.inl ⟨_, rfl, ⟨_, sq.sq⟩, loop_run (tg := tg) (iter := iter) (body := body) (it_tup sq r) r1 q1 (outs_un o1)⟩)
    | k sq r => exact .inl ⟨_, rfl, ⟨_, sq.sq⟩, loop_run (tg := tg) (iter := iter) (body := body) (it_frz sq r) r1 q1 (outs_un o1)⟩
    | v =>
      cases v with
      | str z => exact .inr (.inr (.inl ⟨z, rfl, loop_run (tg := tg) (iter := iter) (body := body) it_str r1 q1 (outs_un o1)⟩))
      | ref a =>
        have q1 : forO (h1 a) a g tb D σ h1 := q1
        unfold forO at q1
        split at q1
        · rename_i xs e
          obtain ⟨vs, sq, r⟩ := rdL_ok (xs := xs) g1.rh (by unfold rdL; rw [e])
          exact .inl ⟨a, rfl, ⟨vs, sq⟩, loop_run (tg := tg) (iter := iter) (body := body) it_lst r1 q1 (outs_un o1)⟩
        · rename_i kvs e
          obtain ⟨vs, hv, r⟩ := dk_ok g1.rh e
          refine .inr (.inr (.inr ⟨a, vs, rfl, hv, fun od nf => ?_⟩))
          have st0 : Stb H1 (upd H1 a (.frz od (.dK vs))) := Stb.set hv trivial
          have rl := go_lock (od := od) g1.rh e hv
          have ru : ∀ {H' : Hp} {h' : Hd}, Go X.gv (upd H1 a (.frz od (.dK vs))) (del h1 a) H' h' → _ := fun g => go_unlock (od := od) g1.rh e hv r g
          have gl : Go X.gv B.H B.h (upd H1 a (.frz od (.dK vs))) (del h1 a) := ⟨r1.go.st.trans st0, fun b ob eb nb => by
            have f := r1.go.fr b ob eb nb
            have z : b ≠ a := fun z => by rw [z, e] at f; cases f.2
            exact ⟨by rw [upd_ne z]; exact f.1, by rw [del_ne z]; exact f.2⟩, rl⟩
          refine loop_run (B := B) (tg := tg) (iter := iter) (body := body) (D := unD a (.dk kvs) D) (it_keys (r.stb st0) upd_same) ⟨gl, r1.s.stb st0⟩ q1 ?_
          have rS : ∀ {H' : Hp}, H' a = some (.frz od (.dK vs)) → StbS H' (upd H' a (.dK vs)) := fun {H'} ea => ⟨fun b xs q => by
              have z : b ≠ a := fun z => by rw [z, ea] at q; cases q
              rw [upd_ne z]; exact q, fun b o xs q => by
              have z : b ≠ a := fun z => by rw [z, ea] at q; cases q
              rw [upd_ne z]; exact q, fun b o xs q => by
              have z : b ≠ a := fun z => by rw [z, ea] at q; cases q
              rw [upd_ne z]; exact q⟩
          have rs' : ∀ {H' : Hp} {σ' : Sd} {σV' : St}, H' a = some (.frz od (.dK vs)) → RelS X.gv H' σ' σV' → RelS X.gv (upd H' a (.dK vs)) σ' σV' := fun ea rr => ⟨rr.1, fun i d ed => by
            obtain ⟨x, ex, rx⟩ := rr.2 i d ed
            exact ⟨x, ex, rx.stbS (rS ea)⟩⟩
          refine ⟨fun σ' h' σV' H' q g r => ?_, fun d h' v H' q g r => ?_, fun σ' h' σV' H' q g r => ?_, fun σ' h' σV' H' q g r => ?_⟩
          · obtain ⟨ea, en, gg⟩ := ru g
            exact .inr ⟨a, od, _, ea, nf, o1.nx _ _ _ _ q gg (rs' ea r)⟩
          · obtain ⟨ea, en, gg⟩ := ru g
            exact .inr ⟨a, od, _, ea, nf, o1.rt _ _ _ _ q gg (r.stbS (rS ea))⟩
          · obtain ⟨ea, en, gg⟩ := ru g
            exact .inr ⟨a, od, _, ea, nf, o1.bk _ _ _ _ q gg (rs' ea r)⟩
          · obtain ⟨ea, en, gg⟩ := ru g
            exact .inr ⟨a, od, _, ea, nf, o1.ct _ _ _ _ q gg (rs' ea r)⟩
        · exact q1.elim
      | _ => exact q1.elim⟩
end
section
variable {te : ED} {g : GD} {b : SD} {σ : Sd} {h : Hd} {D1 : EndsD} {ds : List D} {p : Addr} {z : Str} {o : O} {d : D}
theorem dForA_s : dForA te g b D1 σ h = te σ h fun d h1 => forA g b d D1 σ h1 := rfl
theorem forA_t : forA g b (.t ds) D1 σ h = dLoop g b (fun _ => True) ds D1 σ h := rfl
theorem forA_k : forA g b (.k ds) D1 σ h = dLoop g b (fun _ => True) ds D1 σ h := rfl
theorem forA_z : forA g b (.v (.str z)) D1 σ h = dLoop g b (fun _ => True) (chars z) D1 σ h := rfl
theorem forA_r : forA g b (.v (.ref p)) D1 σ h = forO (h p) p g b D1 σ h := rfl
theorem forO_l : forO (some (.lst ds)) p g b D1 σ h = dLoop g b (fun h' => rdL h' p = some ds) ds D1 σ h := rfl
theorem forO_d {kvs : List (Key × D)} : forO (some (.dk kvs)) p g b D1 σ h = dLoop g b (fun _ => True) (keysL kvs) (unD p (.dk kvs) D1) σ (del h p) := rfl
theorem unD_nx : (unD p o D1).nx σ h = D1.nx σ (put h p o) := rfl
theorem unD_rt : (unD p o D1).rt d h = D1.rt d (put h p o) := rfl
theorem unD_bk : (unD p o D1).bk σ h = D1.bk σ (put h p o) := rfl
theorem unD_ct : (unD p o D1).ct σ h = D1.ct σ (put h p o) := rfl
end
def rds17 := (And.intro @dForA_s (And.intro @forA_t (And.intro @forA_k (And.intro @forA_z (And.intro @forA_r (And.intro @forO_l (And.intro @forO_d (And.intro @unD_nx (And.intro @unD_rt (And.intro @unD_bk (And.intro @unD_ct trivial)))))))))))
end DL
namespace DL
open PySem L2
theorem cmp_inv {g : GD} {tt : TD} {te : ED} {chk : Hd → Prop} {items : List D} {σ : Sd} {h : Hd} {Q : List D → Hd → Prop} {b : BxC Q} (P : List D → Hd → Prop) (h0 : P [] h) (hc : ∀ acc h, P acc h → chk h) (hl : items.length ≤ 1000000)
    (step : ∀ x acc h, x ∈ items → P acc h → acc.length < items.length → ∀ (S : D → Hd → Prop) (N : Hd → Prop), (∀ y h', P (acc ++ [y]) h' → S y h') → g x σ h fun σ2 h2 => tt σ2 h2 fun c h3 => dIte (c = true) (te σ2 h3 S) (N h3) .mk)
    (q : ∀ acc h', acc.length = items.length → P acc h' → Q acc h') : cmp g tt te chk items σ h Q b := by
  suffices ∀ (l acc : List D) (h : Hd), (∀ x ∈ l, x ∈ items) → acc.length + l.length = items.length → P acc h → dComp g tt te chk l acc σ h Q from this items [] h (fun _ h => h) (by simp) h0
  intro l
  induction l with
  | nil => intro acc h _ hz hp; exact ⟨hc _ _ hp, q acc h (by simpa using hz) hp⟩
  | cons x r ih =>
    intro acc h hm hz hp
    rw [List.length_cons] at hz
    refine ⟨hc _ _ hp, step x acc h (hm x List.mem_cons_self) hp (by omega) _ _ fun y h' hp' => ⟨Nat.lt_of_lt_of_le (show acc.length < 1000001 by omega) (by decide), ih _ _ (fun z hz => hm z (List.mem_cons_of_mem _ hz)) ?_ hp'⟩⟩
    rw [List.length_append]
    simp only [List.length_cons, List.length_nil]
    omega
def Seq (h : Hd) (d : D) (ws : List Str) : Prop := d = .t (ws.map sD) ∨ ∃ a, d = .v (.ref a) ∧ h a = some (.lst (ws.map sD))
theorem Seq.up {h h' : Hd} {d : D} {ws : List Str} (s : Seq h d ws) (u : Sub h h') : Seq h' d ws := by
  rcases s with e | ⟨a, e, g⟩
  · exact .inl e
  · exact .inr ⟨a, e, u _ _ g⟩
theorem iAny_seq {h : Hd} {d : D} {ws : List Str} {K : List D → (Hd → Prop) → Hd → Prop} (s : Seq h d ws) (k : ∀ chk : Hd → Prop, (∀ h', Seq h' d ws → chk h') → K (ws.map sD) chk h) : iAnyX d h K := by
  rcases s with rfl | ⟨a, rfl, g⟩
  · rw [iAnyX_t]; exact k _ fun _ _ => trivial
  · rw [iAnyX_r, g, iO_s]
    refine k _ fun h' u => ?_
    rcases u with e | ⟨b, e, g'⟩
    · cases e
    · cases e; exact rdL_l g'
def SeqK (h : Hd) (d : D) (ws : List Str) : Prop := Seq h d ws ∨ ∃ a kvs, d = .v (.ref a) ∧ h a = some (.dk kvs) ∧ keysL kvs = ws.map sD
theorem SeqK.up {h h' : Hd} {d : D} {ws : List Str} (s : SeqK h d ws) (u : Sub h h') : SeqK h' d ws := by
  rcases s with s | ⟨a, kvs, e, g, k⟩
  · exact .inl (s.up u)
  · exact .inr ⟨a, kvs, e, u _ _ g, k⟩
theorem forA_seq {g : GD} {b : SD} {D1 : EndsD} {σ : Sd} {h : Hd} {d : D} {ws : List Str} {f : Addr} {u : O} (s : SeqK h d ws) (hf : h f = none)
    (k : ∀ (chk : Hd → Prop) (D2 : EndsD) (h1 : Hd), (∀ X, chk (put h1 f X)) → (∀ σ X, D1.nx σ (put h f X) → D2.nx σ (put h1 f X)) → dLoop g b chk (ws.map sD) D2 σ (put h1 f u)) : forA g b d D1 σ (put h f u) := by
  rcases s with (rfl | ⟨a, rfl, e⟩) | ⟨a, kvs, rfl, e, ek⟩
  · exact k _ D1 h (fun _ => trivial) fun _ _ q => q
  · have n : a ≠ f := fun z => by rw [z, hf] at e; cases e
    rw [forA_r, put_ne n, e, forO_l]
    exact k _ D1 h (fun X => rdL_l (by rw [put_ne n]; exact e)) fun _ _ q => q
  · have n : a ≠ f := fun z => by rw [z, hf] at e; cases e
    rw [forA_r, put_ne n, e, forO_d, ek]
    have e1 : ∀ X, del (put h f X) a = put (del h a) f X := fun X => by
      funext c
      by_cases z : c = a
      · subst z; rw [del_same, put_ne n, del_same]
      · rw [del_ne z]
        by_cases y : c = f
        · subst y; rw [put_same, put_same]
        · rw [put_ne y, put_ne y, del_ne z]
    rw [e1]
    refine k _ (unD a (.dk kvs) D1) (del h a) (fun _ => trivial) fun σ X q => ?_
    have e2 : put (put (del h a) f X) a (.dk kvs) = put h f X := by
      rw [put_comm n.symm, put_del e]
    show D1.nx σ (put (put (del h a) f X) a (.dk kvs))
    rw [e2]
    exact q
theorem sD_get {l : List Str} {i : Nat} {x : D} (h : (l.map sD)[i]? = some x) : ∃ z, l[i]? = some z ∧ x = sD z := by
  rw [List.getElem?_map] at h
  obtain ⟨z, hz, e⟩ := Option.map_eq_some_iff.mp h
  exact ⟨z, hz, e.symm⟩
theorem flat_sD (l : List Str) : (l.map sD).all flatD = true := by
  rw [List.all_map]
  exact List.all_eq_true.mpr fun _ _ => rfl
section
variable {α : Type} [DecidableEq α]
def dd1 (d : List α) (x : α) : List α := if x ∈ d then d else d ++ [x]
def dd (l : List α) : List α := l.foldl dd1 []
theorem mem_dd1 {d : List α} {x y : α} : y ∈ dd1 d x ↔ y ∈ d ∨ y = x := by
  unfold dd1
  split
  · rename_i h
    exact ⟨.inl, fun z => z.elim id fun e => e ▸ h⟩
  · simp
theorem mem_fold {l : List α} : ∀ {d : List α} {y : α}, y ∈ l.foldl dd1 d ↔ y ∈ d ∨ y ∈ l := by
  induction l with
  | nil => intro d y; simp
  | cons x r ih =>
    intro d y
    rw [List.foldl_cons, ih, mem_dd1, List.mem_cons]
    constructor
    · rintro ((h | h) | h)
      · exact .inl h
      · exact .inr (.inl h)
      · exact .inr (.inr h)
    · rintro (h | h | h)
      · exact .inl (.inl h)
      · exact .inl (.inr h)
      · exact .inr h
theorem mem_dd {l : List α} {y : α} : y ∈ dd l ↔ y ∈ l := by unfold dd; rw [mem_fold]; simp
theorem nodup_dd1 {d : List α} {x : α} (h : d.Nodup) : (dd1 d x).Nodup := by
  unfold dd1
  split
  · exact h
  · rename_i n
    rw [List.nodup_append]
    exact ⟨h, (by simp), fun a ha b hb e => n (by rw [← List.mem_singleton.mp hb, ← e]; exact ha)⟩
theorem nodup_fold {l : List α} : ∀ {d : List α}, d.Nodup → (l.foldl dd1 d).Nodup := by
  induction l with
  | nil => intro d h; exact h
  | cons x r ih => intro d h; exact ih (nodup_dd1 h)
theorem nodup_dd (l : List α) : (dd l).Nodup := nodup_fold List.nodup_nil
theorem len_fold {l : List α} : ∀ {d : List α}, (l.foldl dd1 d).length ≤ d.length + l.length ∧ ((l.foldl dd1 d).length = d.length + l.length ↔ l.Nodup ∧ ∀ x ∈ l, x ∉ d) := by
  induction l with
  | nil => intro d; simp
  | cons x r ih =>
    intro d
    obtain ⟨h1, h2⟩ := ih (d := dd1 d x)
    rw [List.foldl_cons, List.length_cons]
    by_cases c : x ∈ d
    · have e : dd1 d x = d := if_pos c
      rw [e] at h1 h2 ⊢
      refine ⟨by omega, fun z => by omega, fun ⟨_, z⟩ => absurd c (z x List.mem_cons_self)⟩
    · have e : dd1 d x = d ++ [x] := if_neg c
      rw [e] at h1 h2 ⊢
      rw [List.length_append, List.length_singleton] at h1 h2
      refine ⟨by omega, fun z => ?_, fun ⟨z1, z2⟩ => ?_⟩
      · obtain ⟨n1, n2⟩ := h2.mp (by omega)
        refine ⟨List.nodup_cons.mpr ⟨fun hx => n2 x hx (by simp), n1⟩, fun y hy => ?_⟩
        rcases List.mem_cons.mp hy with rfl | hy
        · exact c
        · exact fun hyd => n2 y hy (List.mem_append_left _ hyd)
      · obtain ⟨n1, n2⟩ := List.nodup_cons.mp z1
        have := h2.mpr ⟨n2, fun y hy hyd => by
          rcases List.mem_append.mp hyd with k | k
          · exact z2 y (List.mem_cons_of_mem _ hy) k
          · rw [List.mem_singleton.mp k] at hy; exact n1 hy⟩
        omega
theorem len_dd (l : List α) : (dd l).length ≤ l.length := by have := (len_fold (l := l) (d := [])).1; simpa [dd] using this
theorem len_dd_lt (l : List α) : (dd l).length < l.length ↔ ¬ l.Nodup := by
  obtain ⟨h1, h2⟩ := len_fold (l := l) (d := [])
  have e : dd l = l.foldl dd1 [] := rfl
  rw [e]
  simp at h1 h2
  rw [← h2]
  omega
theorem dd_take {l : List α} {i : Nat} {x : α} (h : l[i]? = some x) : dd (l.take (i + 1)) = dd1 (dd (l.take i)) x := by
  unfold dd
  rw [List.take_add_one, h, List.foldl_append]
  rfl
end
def keysS (d : List Str) : List (Key × D) := d.map fun x => (.inr x, .v (.bl true))
theorem keysS_len (d : List Str) : (keysS d).length = d.length := List.length_map _
theorem valS (d : List Str) (x : Str) : valD (keysS d) (.inr x) = if x ∈ d then some (.v (.bl true)) else none := by
  induction d with
  | nil => rfl
  | cons a r ih =>
    unfold keysS at ih ⊢
    rw [List.map_cons, valD]
    by_cases c : a = x
    · subst c; simp
    · have c' : ¬ x = a := fun e => c e.symm
      rw [if_neg (by simpa using c), ih]
      simp [c']
theorem putS (d : List Str) (x : Str) : putD (keysS d) (.inr x) (.v (.bl true)) = keysS (dd1 d x) := by
  unfold putD dd1
  rw [valS]
  by_cases c : x ∈ d
  · rw [if_pos c, if_pos c]
    refine (if_pos rfl).trans ?_
    unfold keysS
    rw [List.map_map]
    refine List.map_congr_left fun y _ => ?_
    show (if (Sum.inr y : Key) = .inr x then _ else _) = _
    split <;> rfl
  · rw [if_neg c, if_neg c, if_neg (by simp)]
    unfold keysS
    rw [List.map_append]
    rfl
theorem valS_in (d : List Str) (x : Str) : (valD (keysS d) (.inr x)).isSome = decide (x ∈ d) := by
  rw [valS]
  by_cases c : x ∈ d
  · rw [if_pos c, decide_eq_true c]; rfl
  · rw [if_neg c, decide_eq_false c]; rfl
def pof (kind w : Str) : Nat := (wsL kind).idxOf w
theorem pof_at {kind w : Str} (h : w ∈ wsL kind) : (wsL kind)[pof kind w]? = some w := by
  unfold pof
  have hl := List.idxOf_lt_length_of_mem h
  rw [List.getElem?_eq_getElem hl, List.getElem_idxOf hl]
theorem pof_inj {kind w v : Str} (h : w ∈ wsL kind) (h' : v ∈ wsL kind) (e : pof kind w = pof kind v) : w = v := by
  have a := pof_at h
  rw [e, pof_at h'] at a
  cases a
  rfl
theorem pof_all {kind : Str} (hk : kind ∈ kds) : (wsL kind).map (pof kind) = List.range (wsL kind).length := by
  rcases kds_or hk with rfl | rfl | rfl <;> decide +kernel
theorem ws_nodup {kind : Str} (hk : kind ∈ kds) : (wsL kind).Nodup := by
  have h : ((wsL kind).map (pof kind)).Nodup := by rw [pof_all hk]; exact List.nodup_range
  exact List.Pairwise.imp (fun n e => n (by rw [e])) (List.pairwise_map.mp h)
theorem line_ix : ∀ w ∈ lws, ixS "amoEWBsbweOMA" w = some (lws.idxOf w) := by decide +kernel
theorem ring_ix : ∀ w ∈ rws, ixStr rws w = some (rws.idxOf w) := by decide +kernel
theorem box_ix : ∀ a ∈ lws, ∀ b ∈ lws, bws.idxOf (a ++ b) = lws.idxOf a * 13 + lws.idxOf b := by decide +kernel
def sp_place_of : SpD := fun ds h Q _ => ds.length = 2 ∧ ∃ kind w : Str, ds = [.v (.str kind), .v (.str w)] ∧ kind ∈ kds ∧ w ∈ wsL kind ∧ Q (.v (.int (pof kind w : Nat))) h
def rd_place_of (E : ER) : SD :=
  dSeq (dIfS (dTest (d2 pEqA (dVar 0) (dC (.v (.str "line"))))) (dRet (dBM "str" mSIndex (dC c_LINE) (dCons (dVar 1) (dNil)))) (dNext))
  (dSeq (dIfS (dTest (d2 pEqA (dVar 0) (dC (.v (.str "ring"))))) (dRet (dKix c_RING (dCons (dVar 1) (dNil)))) (dNext))
  (dRet (d2 pAdd (d2 pMul (dBM "str" mSIndex (dC c_LINE) (dCons (d2 pIt (dVar 1) (dC (.v (.int 0)))) (dNil))) (dCB cLen (dCons (dC c_LINE) (dNil)))) (dBM "str" mSIndex (dC c_LINE) (dCons (d2 pIt (dVar 1) (dC (.v (.int 1)))) (dNil))))))
abbrev N_place_of : List Str := ["kind", "way"]
theorem strsD_sD (l : List Str) : strsD (l.map sD) = some l := strsD_map l
theorem ok_place_of : ∀ ds h Q E, sp_place_of ds h Q E → rd_place_of (fun x _ h' => E x h') (fin Q) (startD N_place_of ds) h := by
  rintro ds h Q E ⟨_, kind, w, rfl, hk, hw, q⟩
  show rd_place_of _ _ [some (.v (.str kind)), some (.v (.str w))] h
  unfold rd_place_of
  unfold pof at q
  rcases kds_or hk with rfl | rfl | rfl
  · rw [ws_line] at hw q
    have e := line_ix w hw
    try simp -dsimp -implicitDefEqProofs only [↓rds17, ↓rds15, ↓rds14, ↓rds13, ↓rds1, ↓rds2, ↓rds3, ↓rds4, ↓rds5, ↓rds6, ↓rds7, ↓rds8, ↓rds9, ↓rds10, ↓rds11, List.set_cons_zero, List.set_cons_succ, ne_eq, not_false_eq_true, decide_eq_true_eq, Bool.or_true, Bool.or_false, Bool.true_or, Bool.false_or, Bool.and_true, Bool.true_and, Bool.and_false, Bool.false_and, Bool.not_true, Bool.not_false, reduceCtorEq, beq_self_eq_true, true_and, and_true, if_true, if_false, Bool.false_eq_true, c_LINE, e]
    exact finR q
  · rw [ws_ring] at hw q
    have e := ring_ix w hw
    try simp -dsimp -implicitDefEqProofs only [↓rds17, ↓rds15, ↓rds14, ↓rds13, ↓rds1, ↓rds2, ↓rds3, ↓rds4, ↓rds5, ↓rds6, ↓rds7, ↓rds8, ↓rds9, ↓rds10, ↓rds11, List.set_cons_zero, List.set_cons_succ, ne_eq, not_false_eq_true, decide_eq_true_eq, Bool.or_true, Bool.or_false, Bool.true_or, Bool.false_or, Bool.and_true, Bool.true_and, Bool.and_false, Bool.false_and, Bool.not_true, Bool.not_false, reduceCtorEq, beq_self_eq_true, true_and, and_true, if_true, if_false, Bool.false_eq_true, rl, ring_D, strsD_sD, Option.bind_some, e]
    exact finR q
  · rw [ws_box] at hw q
    obtain ⟨c, d, rfl, e2⟩ := len_two (bws_len w hw)
    obtain ⟨hc, hd⟩ := bws_two.mp hw
    have e0 : atI (one c ++ one d).cps.toList 0 = some c := by rw [e2]; exact atI_nat (j := 0) rfl
    have e1 : atI (one c ++ one d).cps.toList 1 = some d := by rw [e2]; exact atI_nat (j := 1) rfl
    have i0 : ixS "amoEWBsbweOMA" ⟨#[c]⟩ = some (lws.idxOf (one c)) := line_ix _ (one_lws.mpr hc)
    have i1 : ixS "amoEWBsbweOMA" ⟨#[d]⟩ = some (lws.idxOf (one d)) := line_ix _ (one_lws.mpr hd)
    rw [box_ix _ (one_lws.mpr hc) _ (one_lws.mpr hd)] at q
    try simp -dsimp -implicitDefEqProofs only [↓rds17, ↓rds15, ↓rds14, ↓rds13, ↓rds1, ↓rds2, ↓rds3, ↓rds4, ↓rds5, ↓rds6, ↓rds7, ↓rds8, ↓rds9, ↓rds10, ↓rds11, List.set_cons_zero, List.set_cons_succ, ne_eq, not_false_eq_true, decide_eq_true_eq, Bool.or_true, Bool.or_false, Bool.true_or, Bool.false_or, Bool.and_true, Bool.true_and, Bool.and_false, Bool.false_and, Bool.not_true, Bool.not_false, reduceCtorEq, beq_self_eq_true, true_and, and_true, if_true, if_false, Bool.false_eq_true, bl, br, c_LINE, e0, e1, i0, i1]
    have l2 : (one c ++ one d).length ≤ sizeLine := by rw [bws_len _ hw]; decide
    refine ⟨l2, by decide, mulOk_r _ (by decide), l2, finR ?_⟩
    rw [show ((("amoEWBsbweOMA" : Str).length : Nat) : Int) = 13 from by decide]
    rw [Int.natCast_add, Int.natCast_mul] at q
    exact q
def ordL (kind : Str) (ws : List Str) : List Str := (wsL kind).filter fun w => decide (w ∈ ws)
def ofP (kind : Str) (x : Int) : Str := (wsL kind).getD x.toNat ""
theorem ofP_pof {kind w : Str} (h : w ∈ wsL kind) : ofP kind ((pof kind w : Nat) : Int) = w := by
  unfold ofP
  rw [Int.toNat_natCast, List.getD_eq_getElem?_getD, pof_at h]
  rfl
def pofI (kind w : Str) : Int := ((pof kind w : Nat) : Int)
def kvO (kind : Str) (d : List Str) : List (Key × D) := d.map fun w => (.inl (pofI kind w), sD w)
theorem keysI_O (kind : Str) : ∀ d : List Str, keysI (kvO kind d) = some (d.map (pofI kind))
  | [] => rfl
  | a :: r => by
    have ih := keysI_O kind r
    unfold kvO at ih ⊢
    rw [List.map_cons, keysI, ih]
    rfl
theorem valO {kind : Str} {d : List Str} {x : Str} (hd : ∀ w ∈ d, w ∈ wsL kind) (hx : x ∈ wsL kind) : valD (kvO kind d) (.inl (pofI kind x)) = if x ∈ d then some (sD x) else none := by
  induction d with
  | nil => rfl
  | cons a r ih =>
    have ih := ih fun w hw => hd w (List.mem_cons_of_mem _ hw)
    unfold kvO at ih ⊢
    rw [List.map_cons, valD]
    by_cases c : a = x
    · subst c; simp
    · have c' : ¬ x = a := fun e => c e.symm
      have n : ¬ (Sum.inl (pofI kind a) : Key) = .inl (pofI kind x) := fun e => by
        have e : pofI kind a = pofI kind x := Sum.inl.inj e
        exact c (pof_inj (hd a List.mem_cons_self) hx (by unfold pofI at e; omega))
      rw [if_neg n, ih]
      simp [c']
theorem putO {kind : Str} {d : List Str} {x : Str} (hd : ∀ w ∈ d, w ∈ wsL kind) (hx : x ∈ wsL kind) : putD (kvO kind d) (.inl (pofI kind x)) (sD x) = kvO kind (dd1 d x) := by
  unfold putD dd1
  rw [valO hd hx]
  by_cases c : x ∈ d
  · rw [if_pos c, if_pos c]
    refine (if_pos rfl).trans ?_
    unfold kvO
    rw [List.map_map]
    refine List.map_congr_left fun y hy => ?_
    show (if (Sum.inl (pofI kind y) : Key) = .inl (pofI kind x) then (_, sD x) else (_, sD y)) = (_, sD y)
    split
    · rename_i e
      have e : pofI kind y = pofI kind x := Sum.inl.inj e
      rw [pof_inj (hd y hy) hx (by unfold pofI at e; omega)]
    · rfl
  · rw [if_neg c, if_neg c]
    refine (if_neg (by simp)).trans ?_
    unfold kvO
    rw [List.map_append]
    rfl
theorem ext_asc : ∀ {l m : List Int}, l.Pairwise (· < ·) → m.Pairwise (· < ·) → (∀ x, x ∈ l ↔ x ∈ m) → l = m
  | [], [], _, _, _ => rfl
  | [], b :: m, _, _, h => absurd ((h b).mpr List.mem_cons_self) (by simp)
  | a :: l, [], _, _, h => absurd ((h a).mp List.mem_cons_self) (by simp)
  | a :: l, b :: m, h1, h2, h => by
    obtain ⟨a1, l1⟩ := List.pairwise_cons.mp h1
    obtain ⟨b1, m1⟩ := List.pairwise_cons.mp h2
    have e : a = b := by
      rcases List.mem_cons.mp ((h a).mp List.mem_cons_self) with z | z
      · exact z
      · rcases List.mem_cons.mp ((h b).mpr List.mem_cons_self) with w | w
        · exact w.symm
        · have := a1 b w; have := b1 a z; omega
    subst e
    rw [ext_asc l1 m1 fun x => ?_]
    constructor
    · intro hx
      rcases List.mem_cons.mp ((h x).mp (List.mem_cons_of_mem _ hx)) with z | z
      · have := a1 x hx; omega
      · exact z
    · intro hx
      rcases List.mem_cons.mp ((h x).mpr (List.mem_cons_of_mem _ hx)) with z | z
      · have := b1 x hx; omega
      · exact z
theorem mem_ordL {kind w : Str} {ws : List Str} : w ∈ ordL kind ws ↔ w ∈ wsL kind ∧ w ∈ ws := by
  unfold ordL
  rw [List.mem_filter, decide_eq_true_eq]
theorem ordL_len {kind : Str} (hk : kind ∈ kds) (ws : List Str) : (ordL kind ws).length ≤ 169 := Nat.le_trans (List.length_filter_le _ _) (ws_ne hk).2
theorem ordL_congr {kind : Str} {ws vs : List Str} (h : ∀ w ∈ wsL kind, w ∈ ws ↔ w ∈ vs) : ordL kind ws = ordL kind vs := List.filter_congr fun w hw => decide_eq_decide.mpr (h w hw)
theorem ordL_ordL (kind : Str) (ws : List Str) : ordL kind (ordL kind ws) = ordL kind ws := ordL_congr fun w hw => by rw [mem_ordL]; exact ⟨fun h => h.2, fun h => ⟨hw, h⟩⟩
theorem ordL_asc {kind : Str} (hk : kind ∈ kds) (ws : List Str) : ((ordL kind ws).map (pofI kind)).Pairwise (· < ·) := by
  have h : ((wsL kind).map (pof kind)).Pairwise (· < ·) := by rw [pof_all hk]; exact List.pairwise_lt_range
  have h2 : (wsL kind).Pairwise fun a b => pofI kind a < pofI kind b := (List.pairwise_map.mp h).imp fun z => by unfold pofI; omega
  exact List.pairwise_map.mpr (h2.sublist List.filter_sublist)
theorem sorted_ord {kind : Str} (hk : kind ∈ kds) {d ws : List Str} {l : List Int} (hm : ∀ w, w ∈ d ↔ w ∈ ws) (hw : ∀ w ∈ ws, w ∈ wsL kind) (hd : d.Nodup) (hp : l.Perm (d.map (pofI kind))) (hs : l.Pairwise (· ≤ ·)) : l = (ordL kind ws).map (pofI kind) := by
  have nd : (d.map (pofI kind)).Nodup := by
    refine List.pairwise_map.mpr (hd.imp_of_mem fun {a b} ha hb n e => n ?_)
    exact pof_inj (hw a ((hm a).mp ha)) (hw b ((hm b).mp hb)) (by unfold pofI at e; omega)
  have nl : l.Nodup := hp.nodup_iff.mpr nd
  refine ext_asc ((hs.and nl).imp fun ⟨h1, h2⟩ => by omega) (ordL_asc hk ws) fun x => ?_
  rw [hp.mem_iff, List.mem_map, List.mem_map]
  constructor
  · rintro ⟨w, h, e⟩
    exact ⟨w, mem_ordL.mpr ⟨hw w ((hm w).mp h), (hm w).mp h⟩, e⟩
  · rintro ⟨w, h, e⟩
    exact ⟨w, (hm w).mpr (mem_ordL.mp h).2, e⟩
def sp_ordered : SpD := fun ds h Q _ => ds.length = 2 ∧ ∃ (kind : Str) (d : D) (ws : List Str) (h0 : Hd), ds = [.v (.str kind), d] ∧ kind ∈ kds ∧ SeqK h d ws ∧ (∀ w ∈ ws, w ∈ wsL kind) ∧ ws.length ≤ 1000 ∧ Sub h0 h ∧ Q (.t ((ordL kind ws).map sD)) h0
def rd_ordered (E : ER) : SD :=
  dSeq (dAsg (dNewK) (nG 2))
  (dSeq (dForA (dVar 1) (nG 3) (dAsg (dVar 3) (subG (dVar 2) (dCall sp_place_of E (dCons (dVar 0) (dCons (dVar 3) (dNil)))) setK)))
  (dRet (dCB cTuple (dCons (dLc (iAnyD (dCB cSortedA (dCons (dVar 2) (dNil)))) (nG 4) (dYes) (d2 pIt (dVar 2) (dVar 4)) [4]) (dNil)))))
abbrev N_ordered : List Str := ["kind", "words", "found", "word", "place"]
theorem ok_ordered : ∀ ds h Q E, sp_ordered ds h Q E → rd_ordered (fun x _ h' => E x h') (fin Q) (startD N_ordered ds) h := by
  rintro ds h Q E ⟨_, kind, d, ws, h0, rfl, hk, sq, hw, hl, sb, q⟩
  show rd_ordered _ _ [some (.v (.str kind)), some d, none, none, none] h
  unfold rd_ordered
  try simp -dsimp -implicitDefEqProofs only [↓rds17, ↓rds15, ↓rds14, ↓rds13, ↓rds1, ↓rds2, ↓rds3, ↓rds4, ↓rds5, ↓rds6, ↓rds7, ↓rds8, ↓rds9, ↓rds10, ↓rds11, List.set_cons_zero, List.set_cons_succ, ne_eq, not_false_eq_true, decide_eq_true_eq, Bool.or_true, Bool.or_false, Bool.true_or, Bool.false_or, Bool.and_true, Bool.true_and, Bool.and_false, Bool.false_and, Bool.not_true, Bool.not_false, reduceCtorEq, beq_self_eq_true, true_and, and_true, if_true, if_false, Bool.false_eq_true]
  refine al_i fun f hf => ?_
  try simp -dsimp -implicitDefEqProofs only [↓rds17, ↓rds15, ↓rds14, ↓rds13, ↓rds1, ↓rds2, ↓rds3, ↓rds4, ↓rds5, ↓rds6, ↓rds7, ↓rds8, ↓rds9, ↓rds10, ↓rds11, List.set_cons_zero, List.set_cons_succ, ne_eq, not_false_eq_true, decide_eq_true_eq, Bool.or_true, Bool.or_false, Bool.true_or, Bool.false_or, Bool.and_true, Bool.true_and, Bool.and_false, Bool.false_and, Bool.not_true, Bool.not_false, reduceCtorEq, beq_self_eq_true, true_and, and_true, if_true, if_false, Bool.false_eq_true]
  refine forA_seq sq hf fun chk D2 h1 hchk hD2 => ?_
  refine loop_of (fun i σ h' => h' = put h1 f (.dk (kvO kind (dd (ws.take i)))) ∧ ∃ v, σ = [some (.v (.str kind)), some d, some (.v (.ref f)), v, none]) ⟨rfl, _, rfl⟩ (fun i σ h' _ ⟨e, _⟩ => ?_) ?_ ?_
  · rw [e]
    exact hchk _
  · rintro i x σ h' hx ⟨rfl, v, rfl⟩ N hN
    obtain ⟨w, hw1, rfl⟩ := sD_get hx
    have ww := hw w (List.mem_of_getElem? hw1)
    try simp -dsimp -implicitDefEqProofs only [↓rds17, ↓rds15, ↓rds14, ↓rds13, ↓rds1, ↓rds2, ↓rds3, ↓rds4, ↓rds5, ↓rds6, ↓rds7, ↓rds8, ↓rds9, ↓rds10, ↓rds11, List.set_cons_zero, List.set_cons_succ, ne_eq, not_false_eq_true, decide_eq_true_eq, Bool.or_true, Bool.or_false, Bool.true_or, Bool.false_or, Bool.and_true, Bool.true_and, Bool.and_false, Bool.false_and, Bool.not_true, Bool.not_false, reduceCtorEq, beq_self_eq_true, true_and, and_true, if_true, if_false, Bool.false_eq_true, sD]
    refine cl_i ⟨rfl, kind, w, rfl, hk, ww, ?_⟩
    try simp -dsimp -implicitDefEqProofs only [↓rds17, ↓rds15, ↓rds14, ↓rds13, ↓rds1, ↓rds2, ↓rds3, ↓rds4, ↓rds5, ↓rds6, ↓rds7, ↓rds8, ↓rds9, ↓rds10, ↓rds11, List.set_cons_zero, List.set_cons_succ, ne_eq, not_false_eq_true, decide_eq_true_eq, Bool.or_true, Bool.or_false, Bool.true_or, Bool.false_or, Bool.and_true, Bool.true_and, Bool.and_false, Bool.false_and, Bool.not_true, Bool.not_false, reduceCtorEq, beq_self_eq_true, true_and, and_true, if_true, if_false, Bool.false_eq_true, sD]
    refine ⟨?_, ?_⟩
    · unfold kvO
      rw [List.length_map]
      have := len_dd (ws.take i)
      rw [List.length_take] at this
      exact Nat.lt_of_le_of_lt (show _ ≤ 1000 by omega) (by decide)
    · have e := putO (kind := kind) (d := dd (ws.take i)) (x := w) (fun y hy => hw y (List.mem_of_mem_take (mem_dd.mp hy))) ww
      have e : putD (kvO kind (dd (ws.take i))) (.inl ((pof kind w : Nat) : Int)) (.v (.str w)) = _ := e
      rw [e, ← dd_take hw1]
      exact hN _ _ ⟨rfl, _, rfl⟩
  · rintro σ h' ⟨rfl, v, rfl⟩
    rw [show ws.take (ws.map sD).length = ws from List.take_of_length_le (by rw [List.length_map]; exact Nat.le_refl _)]
    have ld := len_dd ws
    refine hD2 _ _ ?_
    try simp -dsimp -implicitDefEqProofs only [↓rds17, ↓rds15, ↓rds14, ↓rds13, ↓rds1, ↓rds2, ↓rds3, ↓rds4, ↓rds5, ↓rds6, ↓rds7, ↓rds8, ↓rds9, ↓rds10, ↓rds11, List.set_cons_zero, List.set_cons_succ, ne_eq, not_false_eq_true, decide_eq_true_eq, Bool.or_true, Bool.or_false, Bool.true_or, Bool.false_or, Bool.and_true, Bool.true_and, Bool.and_false, Bool.false_and, Bool.not_true, Bool.not_false, reduceCtorEq, beq_self_eq_true, true_and, and_true, if_true, if_false, Bool.false_eq_true, keysI_O]
    refine ⟨by rw [List.length_map]; omega, srt_i fun l hp hs => al_i fun r hr => ?_⟩
    have el := sorted_ord hk (ws := ws) (fun w => mem_dd) hw (nodup_dd ws) hp hs
    subst el
    try simp -dsimp -implicitDefEqProofs only [↓rds17, ↓rds15, ↓rds14, ↓rds13, ↓rds1, ↓rds2, ↓rds3, ↓rds4, ↓rds5, ↓rds6, ↓rds7, ↓rds8, ↓rds9, ↓rds10, ↓rds11, List.set_cons_zero, List.set_cons_succ, ne_eq, not_false_eq_true, decide_eq_true_eq, Bool.or_true, Bool.or_false, Bool.true_or, Bool.false_or, Bool.and_true, Bool.true_and, Bool.and_false, Bool.false_and, Bool.not_true, Bool.not_false, reduceCtorEq, beq_self_eq_true, true_and, and_true, if_true, if_false, Bool.false_eq_true]
    have nfr := nf hr
    have gf : put (put h f (.dk (kvO kind (dd ws)))) r (.lst (intsD ((ordL kind ws).map (pofI kind)))) f = some (.dk (kvO kind (dd ws))) := by rw [put_ne nfr.symm, put_same]
    have ol := ordL_len hk ws
    refine cmp_map (fun x => match x with | .v (.int i) => sD (ofP kind i) | d => d) (rdL_l put_same) (by rw [len_intsD, List.length_map]; omega) ?_ ?_
    · intro x hx S N hS
      obtain ⟨y, hy, rfl⟩ : ∃ y ∈ ordL kind ws, x = .v (.int (pofI kind y)) := by
        unfold intsD at hx
        obtain ⟨i, hi, rfl⟩ := List.mem_map.mp hx
        obtain ⟨y, hy, rfl⟩ := List.mem_map.mp hi
        exact ⟨y, hy, rfl⟩
      obtain ⟨y1, y2⟩ := mem_ordL.mp hy
      have e : valD (kvO kind (dd ws)) (.inl (pofI kind y)) = some (sD y) := by
        rw [valO (fun z hz => hw z (mem_dd.mp hz)) y1, if_pos (mem_dd.mpr y2)]
      have hS : S (sD (ofP kind (pofI kind y))) _ := hS
      rw [show ofP kind (pofI kind y) = y from ofP_pof y1] at hS
      try simp -dsimp -implicitDefEqProofs only [↓rds17, ↓rds15, ↓rds14, ↓rds13, ↓rds1, ↓rds2, ↓rds3, ↓rds4, ↓rds5, ↓rds6, ↓rds7, ↓rds8, ↓rds9, ↓rds10, ↓rds11, List.set_cons_zero, List.set_cons_succ, ne_eq, not_false_eq_true, decide_eq_true_eq, Bool.or_true, Bool.or_false, Bool.true_or, Bool.false_or, Bool.and_true, Bool.true_and, Bool.and_false, Bool.false_and, Bool.not_true, Bool.not_false, reduceCtorEq, beq_self_eq_true, true_and, and_true, if_true, if_false, Bool.false_eq_true, gf, e]
      exact hS
    intro p hp
    try simp -dsimp -implicitDefEqProofs only [↓rds17, ↓rds15, ↓rds14, ↓rds13, ↓rds1, ↓rds2, ↓rds3, ↓rds4, ↓rds5, ↓rds6, ↓rds7, ↓rds8, ↓rds9, ↓rds10, ↓rds11, List.set_cons_zero, List.set_cons_succ, ne_eq, not_false_eq_true, decide_eq_true_eq, Bool.or_true, Bool.or_false, Bool.true_or, Bool.false_or, Bool.and_true, Bool.true_and, Bool.and_false, Bool.false_and, Bool.not_true, Bool.not_false, reduceCtorEq, beq_self_eq_true, true_and, and_true, if_true, if_false, Bool.false_eq_true]
    refine finI (hs := h0) ?_ ?_
    · exact sb.trans ((Sub.put hf).trans ((Sub.put hr).trans (Sub.put hp)))
    · have : (intsD ((ordL kind ws).map (pofI kind))).map (fun x => match x with | .v (.int i) => sD (ofP kind i) | d => d) = (ordL kind ws).map sD := by
        unfold intsD
        rw [List.map_map, List.map_map]
        exact List.map_congr_left fun y hy => by
          show sD (ofP kind (pofI kind y)) = sD y
          rw [show ofP kind (pofI kind y) = y from ofP_pof (mem_ordL.mp hy).1]
      rw [this]
      exact q
def sp_has_doubles : SpD := fun ds h Q _ => ds.length = 1 ∧ ∃ (d : D) (ws : List Str), ds = [d] ∧ Seq h d ws ∧ ws.length ≤ 1000 ∧ Q (.v (.bl (!decide ws.Nodup))) h
def rd_has_doubles (E : ER) : SD :=
  dRet (d2 pLt (dCB cLen (dCons (dDc (iAnyD (dVar 0)) (nG 1) (dYes) (dVar 1) (dC (.v (.bl true))) [1]) (dNil))) (dCB cLen (dCons (dVar 0) (dNil))))
abbrev N_has_doubles : List Str := ["values", "value"]
theorem len_seq {h : Hd} {d : D} {ws : List Str} {Q : KD} (s : Seq h d ws) (q : Q (.v (.int (ws.length : Int))) h) : cLen [d] h Q := by
  rcases s with rfl | ⟨a, rfl, g⟩
  · rw [cLen_t, List.length_map]; exact q
  · rw [cLen_r, g, lenO_l, List.length_map]; exact q
theorem dc_seq {h : Hd} {ws : List Str} {chk : Hd → Prop} {i : Nat} {σ : Sd} {Q : List (Key × D) → Hd → Prop} {b : BxD Q} (hi : i < σ.length) (hc : chk h) (hl : ws.length ≤ 1000) (q : Q (keysS (dd ws)) h) : dcm (nG i) dYes (dVar i) (dC (.v (.bl true))) chk (ws.map sD) σ h Q b := by
  refine dcm_of (fun j => keysS (dd (ws.take j))) rfl hc ?_ ?_
  · intro j x hx S N hS
    obtain ⟨w, hw, rfl⟩ := sD_get hx
    rw [dd_take hw] at hS
    have g : ∀ (σ : Sd) (i : Nat) (d : D), i < σ.length → gS (sS σ i d) i = some d := by
      intro σ
      induction σ with
      | nil => intro i d h; exact absurd h (Nat.not_lt_zero _)
      | cons a r ih =>
        intro i d h
        cases i with
        | zero => rfl
        | succ i => exact ih i d (Nat.lt_of_succ_lt_succ h)
    have ld := len_dd (ws.take j)
    rw [List.length_take] at ld
    try simp -dsimp -implicitDefEqProofs only [↓rds17, ↓rds15, ↓rds14, ↓rds13, ↓rds1, ↓rds2, ↓rds3, ↓rds4, ↓rds5, ↓rds6, ↓rds7, ↓rds8, ↓rds9, ↓rds10, ↓rds11, List.set_cons_zero, List.set_cons_succ, ne_eq, not_false_eq_true, decide_eq_true_eq, Bool.or_true, Bool.or_false, Bool.true_or, Bool.false_or, Bool.and_true, Bool.true_and, Bool.and_false, Bool.false_and, Bool.not_true, Bool.not_false, reduceCtorEq, beq_self_eq_true, true_and, and_true, if_true, if_false, Bool.false_eq_true, sD, g σ i (D.v (.str w)) hi]
    refine ⟨?_, ?_⟩
    · rw [keysS_len]
      exact Nat.lt_of_le_of_lt (show _ ≤ 1000 by omega) (by decide)
    · rw [putS]; exact hS
  · rw [show ws.take (ws.map sD).length = ws from List.take_of_length_le (by rw [List.length_map]; exact Nat.le_refl _)]
    exact q
theorem ok_has_doubles : ∀ ds h Q E, sp_has_doubles ds h Q E → rd_has_doubles (fun x _ h' => E x h') (fin Q) (startD N_has_doubles ds) h := by
  rintro ds h Q E ⟨_, d, ws, rfl, sq, hl, q⟩
  show rd_has_doubles _ _ [some d, none] h
  unfold rd_has_doubles
  try simp -dsimp -implicitDefEqProofs only [↓rds17, ↓rds15, ↓rds14, ↓rds13, ↓rds1, ↓rds2, ↓rds3, ↓rds4, ↓rds5, ↓rds6, ↓rds7, ↓rds8, ↓rds9, ↓rds10, ↓rds11, List.set_cons_zero, List.set_cons_succ, ne_eq, not_false_eq_true, decide_eq_true_eq, Bool.or_true, Bool.or_false, Bool.true_or, Bool.false_or, Bool.and_true, Bool.true_and, Bool.and_false, Bool.false_and, Bool.not_true, Bool.not_false, reduceCtorEq, beq_self_eq_true, true_and, and_true, if_true, if_false, Bool.false_eq_true]
  refine iAny_seq sq fun chk hchk => ?_
  refine dc_seq (i := 1) (by show 1 < 2; decide) (hchk _ sq) hl ?_
  intro p hp
  try simp -dsimp -implicitDefEqProofs only [↓rds17, ↓rds15, ↓rds14, ↓rds13, ↓rds1, ↓rds2, ↓rds3, ↓rds4, ↓rds5, ↓rds6, ↓rds7, ↓rds8, ↓rds9, ↓rds10, ↓rds11, List.set_cons_zero, List.set_cons_succ, ne_eq, not_false_eq_true, decide_eq_true_eq, Bool.or_true, Bool.or_false, Bool.true_or, Bool.false_or, Bool.and_true, Bool.true_and, Bool.and_false, Bool.false_and, Bool.not_true, Bool.not_false, reduceCtorEq, beq_self_eq_true, true_and, and_true, if_true, if_false, Bool.false_eq_true, keysS_len]
  refine len_seq (sq.up (Sub.put hp)) ?_
  try simp -dsimp -implicitDefEqProofs only [↓rds17, ↓rds15, ↓rds14, ↓rds13, ↓rds1, ↓rds2, ↓rds3, ↓rds4, ↓rds5, ↓rds6, ↓rds7, ↓rds8, ↓rds9, ↓rds10, ↓rds11, List.set_cons_zero, List.set_cons_succ, ne_eq, not_false_eq_true, decide_eq_true_eq, Bool.or_true, Bool.or_false, Bool.true_or, Bool.false_or, Bool.and_true, Bool.true_and, Bool.and_false, Bool.false_and, Bool.not_true, Bool.not_false, reduceCtorEq, beq_self_eq_true, true_and, and_true, if_true, if_false, Bool.false_eq_true]
  refine finI (Sub.put hp) ?_
  rw [show decide (((dd ws).length : Int) < (ws.length : Int)) = !decide ws.Nodup from ?_]
  · exact q
  · rw [← decide_not]
    exact decide_eq_decide.mpr ((by omega : ((dd ws).length : Int) < (ws.length : Int) ↔ (dd ws).length < ws.length).trans (len_dd_lt ws))
end DL
namespace DL
open PySem L2
def Kn (h : Hd) : D → Prop
  | .v (.int _) => True
  | .v (.bl _) => True
  | .v .non => True
  | .v (.str _) => True
  | .v (.ref a) => ∃ xs, h a = some (.lst xs)
  | .t _ => True
  | _ => False
theorem Kn.up {h h' : Hd} {d : D} (k : Kn h d) (s : Sub h h') : Kn h' d := by
  unfold Kn at k ⊢
  split at k <;> try trivial
  obtain ⟨xs, e⟩ := k
  exact ⟨xs, s _ _ e⟩
theorem tyName_lst {h : Hd} {a : Addr} {xs : List D} (e : h a = some (.lst xs)) : tyName (.v (.ref a)) h = some "list" := by
  show (match h a with
    | some (.lst _) => some "list"
    | some (.dk _) => some "dict"
    | _ => none) = _
  rw [e]
def isS : D → Bool
  | .v (.str _) => true
  | _ => false
theorem isS_sD {d : D} (h : isS d = true) : ∃ z, d = sD z := by
  unfold isS at h
  split at h
  · exact ⟨_, rfl⟩
  · cases h
theorem tyName_str {h : Hd} {d : D} (k : Kn h d) : ∃ m, tyName d h = some m ∧ subTy m "str" = isS d := by
  unfold Kn at k
  split at k
  · exact ⟨_, rfl, (by show subTy "int" "str" = false; decide)⟩
  · exact ⟨_, rfl, (by show subTy "bool" "str" = false; decide)⟩
  · exact ⟨_, rfl, by decide⟩
  · exact ⟨_, rfl, (by show subTy "str" "str" = true; decide)⟩
  · obtain ⟨xs, e⟩ := k
    exact ⟨"list", tyName_lst e, (by show subTy "list" "str" = false; decide)⟩
  · exact ⟨_, rfl, (by show subTy "tuple" "str" = false; decide)⟩
  · exact k.elim
def isTp : D → Bool
  | .t _ => true
  | _ => false
theorem tyName_tup {h : Hd} {d : D} (k : Kn h d) : ∃ m, tyName d h = some m ∧ subTy m "tuple" = isTp d := by
  unfold Kn at k
  split at k
  · exact ⟨_, rfl, (by show subTy "int" "tuple" = false; decide)⟩
  · exact ⟨_, rfl, (by show subTy "bool" "tuple" = false; decide)⟩
  · exact ⟨_, rfl, by decide⟩
  · exact ⟨_, rfl, (by show subTy "str" "tuple" = false; decide)⟩
  · obtain ⟨xs, e⟩ := k
    exact ⟨"list", tyName_lst e, (by show subTy "list" "tuple" = false; decide)⟩
  · exact ⟨_, rfl, (by show subTy "tuple" "tuple" = true; decide)⟩
  · exact k.elim
theorem strsD_all : ∀ {xs : List D}, xs.all isS = true → ∃ ws : List Str, xs = ws.map sD
  | [], _ => ⟨[], rfl⟩
  | x :: r, h => by
    rw [List.all_cons, Bool.and_eq_true] at h
    obtain ⟨z, rfl⟩ := isS_sD h.1
    obtain ⟨ws, rfl⟩ := strsD_all h.2
    exact ⟨z :: ws, rfl⟩
theorem strsD_not : ∀ {xs : List D}, xs.all isS = false → strsD xs = none
  | [], h => by cases h
  | .v (.str z) :: r, h => by
    have h : r.all isS = false := by rw [List.all_cons] at h; simpa [isS] using h
    unfold strsD
    rw [strsD_not h]
  | .v .non :: _, _ => rfl
  | .v (.bl _) :: _, _ => rfl
  | .v (.int _) :: _, _ => rfl
  | .v (.byt _) :: _, _ => rfl
  | .v (.flt _) :: _, _ => rfl
  | .v (.ref _) :: _, _ => rfl
  | .v (.ty _) :: _, _ => rfl
  | .t _ :: _, _ => rfl
  | .k _ :: _, _ => rfl
theorem fm_pos (P : D → Bool) : ∀ l : List D, decide (((l.filterMap fun x => if P x then none else some x).length : Int) > 0) = !l.all P
  | [] => rfl
  | x :: r => by
    rw [List.filterMap_cons, List.all_cons]
    by_cases c : P x = true
    · rw [if_pos c, c, Bool.true_and]
      exact fm_pos P r
    · rw [if_neg c, Bool.eq_false_iff.mpr c, Bool.false_and]
      simp
theorem eqDs_sD : ∀ ws vs : List Str, eqDs (ws.map sD) (vs.map sD) = decide (ws = vs)
  | [], [] => by simp [eqDs]
  | [], _ :: _ => by simp [eqDs]
  | _ :: _, [] => by simp [eqDs]
  | a :: r, b :: s => by
    rw [List.map_cons, List.map_cons, eqDs, eqDs_sD r s]
    have e : eqD (sD a) (sD b) = decide (a = b) := by unfold sD eqD; exact eqV_str
    rw [e]
    by_cases c : a = b <;> by_cases c2 : r = s <;> simp [c, c2]
theorem eqD_sD (ws vs : List Str) : eqD (.t (ws.map sD)) (.t (vs.map sD)) = decide (ws = vs) := by
  unfold eqD
  exact eqDs_sD ws vs
theorem plDs_sD {n : Nat} : ∀ ws : List Str, plDs n (ws.map sD) = true
  | [] => by simp [plDs]
  | a :: r => by
    rw [List.map_cons, plDs, plDs_sD r]
    unfold sD
    rw [plD_v]
    rfl
theorem plD_sD {n : Nat} (ws : List Str) : plD (n + 1) (.t (ws.map sD)) = true := by
  unfold plD
  exact plDs_sD ws
def selS (P : Str → Bool) : D → Option D
  | .v (.str w) => if P w = true then some (sD w) else none
  | _ => none
theorem selS_map (P : Str → Bool) : ∀ ws : List Str, (ws.map sD).filterMap (selS P) = (ws.filter P).map sD
  | [] => rfl
  | w :: r => by
    rw [List.map_cons, List.filterMap_cons, List.filter_cons, selS_map P r]
    have e : selS P (sD w) = if P w = true then some (sD w) else none := rfl
    rw [e]
    by_cases c : P w = true
    · rw [if_pos c, if_pos c, List.map_cons]
    · rw [if_neg c, if_neg c]
theorem gS_same : ∀ (σ : Sd) (i : Nat) (d : D), i < σ.length → gS (sS σ i d) i = some d
  | [], i, d, h => absurd h (Nat.not_lt_zero _)
  | a :: r, 0, d, h => rfl
  | a :: r, i + 1, d, h => gS_same r i d (Nat.lt_of_succ_lt_succ h)
theorem gS_ne : ∀ (σ : Sd) (i j : Nat) (d : D), i ≠ j → gS (sS σ i d) j = gS σ j
  | [], i, j, d, h => rfl
  | a :: r, 0, 0, d, h => absurd rfl h
  | a :: r, 0, j + 1, d, h => rfl
  | a :: r, i + 1, 0, d, h => rfl
  | a :: r, i + 1, j + 1, d, h => gS_ne r i j d (fun e => h (by rw [e]))
theorem fm_selS (P : Str → Bool) (ws : List Str) : decide (0 < ((((ws.filter P).map sD).length : Nat) : Int)) = ws.any P := by
  rw [List.length_map]
  by_cases c : ws.any P = true
  · rw [c]
    obtain ⟨w, hw, hp⟩ := List.any_eq_true.mp c
    have : 0 < (ws.filter P).length := List.length_pos_of_mem (List.mem_filter.mpr ⟨hw, hp⟩)
    exact decide_eq_true (by omega)
  · rw [Bool.not_eq_true] at c
    rw [c]
    have : ws.filter P = [] := List.filter_eq_nil_iff.mpr fun w hw hp => by
      have := List.any_eq_false.mp c w hw
      exact this hp
    rw [this]
    rfl
def lotT (kind : Str) (xs : List D) : Bool := match strsD xs with
  | some ws => (ws.all fun w => decide (w ∈ wsL kind)) && decide (ordL kind ws = ws)
  | none => false
def lotB (kind : Str) : D → Bool
  | .t xs => lotT kind xs
  | _ => false
theorem lotB_sD (kind : Str) (ws : List Str) : lotB kind (.t (ws.map sD)) = ((ws.all fun w => decide (w ∈ wsL kind)) && decide (ordL kind ws = ws)) := by
  show lotT _ _ = _
  unfold lotT
  rw [strsD_sD]
theorem lotB_not {kind : Str} {xs : List D} (h : xs.all isS = false) : lotB kind (.t xs) = false := by
  show lotT _ _ = _
  unfold lotT
  rw [strsD_not h]
def sp_is_lot : SpD := fun ds h Q _ => ds.length = 2 ∧ ∃ (kind : Str) (d : D), ds = [.v (.str kind), d] ∧ kind ∈ kds ∧ Kn h d ∧ (∀ xs, d = .t xs → xs.length ≤ 1000 ∧ ∀ x ∈ xs, Kn h x ∧ ∀ z, x = sD z → z.length ≤ 1000) ∧ Q (.v (.bl (lotB kind d))) h
def rd_is_lot (E : ER) : SD :=
  dSeq (dIfS (dOr (dNot (dTest (dCB cIsi (dCons (dVar 1) (dCons (dC (.v (.ty "tuple"))) (dNil)))))) (dTest (d2 pGt (dCB cLen (dCons (dLc (iAnyD (dVar 1)) (nG 2) (dNot (dTest (dCB cIsi (dCons (dVar 2) (dCons (dC (.v (.ty "str"))) (dNil)))))) (dVar 2) [2]) (dNil))) (dC (.v (.int 0)))))) (dRet (dC (.v (.bl false)))) (dNext))
  (dSeq (dIfS (dOr (dTest (d2 pGt (dCB cLen (dCons (dLc (iAnyD (dVar 1)) (nG 2) (dNot (dTest (dCall sp_is_way E0d (dCons (dVar 0) (dCons (dVar 2) (dNil)))))) (dVar 2) [2]) (dNil))) (dC (.v (.int 0))))) (dTest (dCall sp_has_doubles E (dCons (dVar 1) (dNil))))) (dRet (dC (.v (.bl false)))) (dNext))
  (dRet (d2 pEqA (dVar 1) (dCall sp_ordered E (dCons (dVar 0) (dCons (dVar 1) (dNil)))))))
abbrev N_is_lot : List Str := ["kind", "value", "word"]
theorem ok_is_lot : ∀ ds h Q E, sp_is_lot ds h Q E → rd_is_lot (fun x _ h' => E x h') (fin Q) (startD N_is_lot ds) h := by
  rintro ds h Q E ⟨_, kind, d, rfl, hk, kn, hx, q⟩
  show rd_is_lot _ _ [some (.v (.str kind)), some d, none] h
  unfold rd_is_lot
  obtain ⟨m, e1, e2⟩ := tyName_tup kn
  by_cases ht : isTp d = true
  · obtain ⟨xs, rfl⟩ : ∃ xs, d = .t xs := by
      unfold isTp at ht
      split at ht
      · exact ⟨_, rfl⟩
      · cases ht
    obtain ⟨hl, hx⟩ := hx xs rfl
    try simp -dsimp -implicitDefEqProofs only [↓rds17, ↓rds15, ↓rds14, ↓rds13, ↓rds1, ↓rds2, ↓rds3, ↓rds4, ↓rds5, ↓rds6, ↓rds7, ↓rds8, ↓rds9, ↓rds10, ↓rds11, List.set_cons_zero, List.set_cons_succ, ne_eq, not_false_eq_true, decide_eq_true_eq, Bool.or_true, Bool.or_false, Bool.true_or, Bool.false_or, Bool.and_true, Bool.true_and, Bool.and_false, Bool.false_and, Bool.not_true, Bool.not_false, reduceCtorEq, beq_self_eq_true, true_and, and_true, if_true, if_false, Bool.false_eq_true, e1, e2, ht]
    refine cmp_of (fun x => if isS x then none else some x) trivial (by omega) ?_ ?_
    · intro x hx' S N h1 h2
      obtain ⟨m, f1, f2⟩ := tyName_str (hx x hx').1
      try simp -dsimp -implicitDefEqProofs only [↓rds17, ↓rds15, ↓rds14, ↓rds13, ↓rds1, ↓rds2, ↓rds3, ↓rds4, ↓rds5, ↓rds6, ↓rds7, ↓rds8, ↓rds9, ↓rds10, ↓rds11, List.set_cons_zero, List.set_cons_succ, ne_eq, not_false_eq_true, decide_eq_true_eq, Bool.or_true, Bool.or_false, Bool.true_or, Bool.false_or, Bool.and_true, Bool.true_and, Bool.and_false, Bool.false_and, Bool.not_true, Bool.not_false, reduceCtorEq, beq_self_eq_true, true_and, and_true, if_true, if_false, Bool.false_eq_true, f1, f2]
      refine dIte_by (fun c => ?_) fun c => ?_
      · try simp -dsimp -implicitDefEqProofs only [↓rds17, ↓rds15, ↓rds14, ↓rds13, ↓rds1, ↓rds2, ↓rds3, ↓rds4, ↓rds5, ↓rds6, ↓rds7, ↓rds8, ↓rds9, ↓rds10, ↓rds11, List.set_cons_zero, List.set_cons_succ, ne_eq, not_false_eq_true, decide_eq_true_eq, Bool.or_true, Bool.or_false, Bool.true_or, Bool.false_or, Bool.and_true, Bool.true_and, Bool.and_false, Bool.false_and, Bool.not_true, Bool.not_false, reduceCtorEq, beq_self_eq_true, true_and, and_true, if_true, if_false, Bool.false_eq_true]
        exact h1 x (by simp only [Bool.not_eq_true'] at c; rw [c]; rfl)
      · exact h2 (by simp only [Bool.not_eq_true', Bool.not_eq_false] at c; rw [c]; rfl)
    intro p hp
    try simp -dsimp -implicitDefEqProofs only [↓rds17, ↓rds15, ↓rds14, ↓rds13, ↓rds1, ↓rds2, ↓rds3, ↓rds4, ↓rds5, ↓rds6, ↓rds7, ↓rds8, ↓rds9, ↓rds10, ↓rds11, List.set_cons_zero, List.set_cons_succ, ne_eq, not_false_eq_true, decide_eq_true_eq, Bool.or_true, Bool.or_false, Bool.true_or, Bool.false_or, Bool.and_true, Bool.true_and, Bool.and_false, Bool.false_and, Bool.not_true, Bool.not_false, reduceCtorEq, beq_self_eq_true, true_and, and_true, if_true, if_false, Bool.false_eq_true]
    have fp := fm_pos isS xs
    refine dIte_by (fun c => ?_) fun c => ?_
    · try simp -dsimp -implicitDefEqProofs only [↓rds17, ↓rds15, ↓rds14, ↓rds13, ↓rds1, ↓rds2, ↓rds3, ↓rds4, ↓rds5, ↓rds6, ↓rds7, ↓rds8, ↓rds9, ↓rds10, ↓rds11, List.set_cons_zero, List.set_cons_succ, ne_eq, not_false_eq_true, decide_eq_true_eq, Bool.or_true, Bool.or_false, Bool.true_or, Bool.false_or, Bool.and_true, Bool.true_and, Bool.and_false, Bool.false_and, Bool.not_true, Bool.not_false, reduceCtorEq, beq_self_eq_true, true_and, and_true, if_true, if_false, Bool.false_eq_true]
      have fs : xs.all isS = false := by
        rw [decide_eq_true (by omega)] at fp
        simpa using fp.symm
      rw [lotB_not fs] at q
      exact finI (Sub.put hp) q
    have fs : xs.all isS = true := by
      rw [decide_eq_false (by omega)] at fp
      simpa using fp.symm
    obtain ⟨ws, rfl⟩ := strsD_all fs
    rw [lotB_sD] at q
    clear c fp
    have sub1 : Sub h (put h p (.lst ((ws.map sD).filterMap fun x => if isS x = true then none else some x))) := Sub.put hp
    generalize put h p (.lst ((ws.map sD).filterMap fun x => if isS x = true then none else some x)) = h1 at sub1
    rw [List.length_map] at hl
    try simp -dsimp -implicitDefEqProofs only [↓rds17, ↓rds15, ↓rds14, ↓rds13, ↓rds1, ↓rds2, ↓rds3, ↓rds4, ↓rds5, ↓rds6, ↓rds7, ↓rds8, ↓rds9, ↓rds10, ↓rds11, List.set_cons_zero, List.set_cons_succ, ne_eq, not_false_eq_true, decide_eq_true_eq, Bool.or_true, Bool.or_false, Bool.true_or, Bool.false_or, Bool.and_true, Bool.true_and, Bool.and_false, Bool.false_and, Bool.not_true, Bool.not_false, reduceCtorEq, beq_self_eq_true, true_and, and_true, if_true, if_false, Bool.false_eq_true]
    refine cmp_of (selS fun w => !decide (w ∈ wsL kind)) trivial (by rw [List.length_map]; omega) ?_ ?_
    · intro x hx' S N h1 h2
      obtain ⟨w, hw, rfl⟩ := List.mem_map.mp hx'
      have h1 : ∀ y, (if (!decide (w ∈ wsL kind)) = true then some (sD w) else none) = some y → S y _ := h1
      have h2 : (if (!decide (w ∈ wsL kind)) = true then some (sD w) else none) = none → N _ := h2
      try simp -dsimp -implicitDefEqProofs only [↓rds17, ↓rds15, ↓rds14, ↓rds13, ↓rds1, ↓rds2, ↓rds3, ↓rds4, ↓rds5, ↓rds6, ↓rds7, ↓rds8, ↓rds9, ↓rds10, ↓rds11, List.set_cons_zero, List.set_cons_succ, ne_eq, not_false_eq_true, decide_eq_true_eq, Bool.or_true, Bool.or_false, Bool.true_or, Bool.false_or, Bool.and_true, Bool.true_and, Bool.and_false, Bool.false_and, Bool.not_true, Bool.not_false, reduceCtorEq, beq_self_eq_true, true_and, and_true, if_true, if_false, Bool.false_eq_true, sD]
      refine cl_i ⟨rfl, kind, w, rfl, hk, (hx _ hx').2 w rfl, ?_⟩
      try simp -dsimp -implicitDefEqProofs only [↓rds17, ↓rds15, ↓rds14, ↓rds13, ↓rds1, ↓rds2, ↓rds3, ↓rds4, ↓rds5, ↓rds6, ↓rds7, ↓rds8, ↓rds9, ↓rds10, ↓rds11, List.set_cons_zero, List.set_cons_succ, ne_eq, not_false_eq_true, decide_eq_true_eq, Bool.or_true, Bool.or_false, Bool.true_or, Bool.false_or, Bool.and_true, Bool.true_and, Bool.and_false, Bool.false_and, Bool.not_true, Bool.not_false, reduceCtorEq, beq_self_eq_true, true_and, and_true, if_true, if_false, Bool.false_eq_true, sD]
      refine dIte_by (fun c => ?_) fun c => ?_
      · try simp -dsimp -implicitDefEqProofs only [↓rds17, ↓rds15, ↓rds14, ↓rds13, ↓rds1, ↓rds2, ↓rds3, ↓rds4, ↓rds5, ↓rds6, ↓rds7, ↓rds8, ↓rds9, ↓rds10, ↓rds11, List.set_cons_zero, List.set_cons_succ, ne_eq, not_false_eq_true, decide_eq_true_eq, Bool.or_true, Bool.or_false, Bool.true_or, Bool.false_or, Bool.and_true, Bool.true_and, Bool.and_false, Bool.false_and, Bool.not_true, Bool.not_false, reduceCtorEq, beq_self_eq_true, true_and, and_true, if_true, if_false, Bool.false_eq_true, sD]
        exact h1 _ (if_pos (by simpa using c))
      · exact h2 (if_neg (by simpa using c))
    rw [selS_map]
    intro r hr
    try simp -dsimp -implicitDefEqProofs only [↓rds17, ↓rds15, ↓rds14, ↓rds13, ↓rds1, ↓rds2, ↓rds3, ↓rds4, ↓rds5, ↓rds6, ↓rds7, ↓rds8, ↓rds9, ↓rds10, ↓rds11, List.set_cons_zero, List.set_cons_succ, ne_eq, not_false_eq_true, decide_eq_true_eq, Bool.or_true, Bool.or_false, Bool.true_or, Bool.false_or, Bool.and_true, Bool.true_and, Bool.and_false, Bool.false_and, Bool.not_true, Bool.not_false, reduceCtorEq, beq_self_eq_true, true_and, and_true, if_true, if_false, Bool.false_eq_true]
    have fa := fm_selS (fun w => !decide (w ∈ wsL kind)) ws
    refine dIte_by (fun c => ?_) fun c => ?_
    · rw [decide_eq_true c] at fa
      have : (ws.all fun w => decide (w ∈ wsL kind)) = false := by
        obtain ⟨w, hw, hp⟩ := List.any_eq_true.mp fa.symm
        refine List.all_eq_false.mpr ⟨w, hw, ?_⟩
        simpa using hp
      rw [this, Bool.false_and] at q
      try simp -dsimp -implicitDefEqProofs only [↓rds17, ↓rds15, ↓rds14, ↓rds13, ↓rds1, ↓rds2, ↓rds3, ↓rds4, ↓rds5, ↓rds6, ↓rds7, ↓rds8, ↓rds9, ↓rds10, ↓rds11, List.set_cons_zero, List.set_cons_succ, ne_eq, not_false_eq_true, decide_eq_true_eq, Bool.or_true, Bool.or_false, Bool.true_or, Bool.false_or, Bool.and_true, Bool.true_and, Bool.and_false, Bool.false_and, Bool.not_true, Bool.not_false, reduceCtorEq, beq_self_eq_true, true_and, and_true, if_true, if_false, Bool.false_eq_true]
      exact finI (sub1.trans (Sub.put hr)) q
    rw [decide_eq_false c] at fa
    have al : ∀ w ∈ ws, w ∈ wsL kind := fun w hw => by
      have := List.any_eq_false.mp fa.symm w hw
      simpa using this
    have : (ws.all fun w => decide (w ∈ wsL kind)) = true := List.all_eq_true.mpr fun w hw => decide_eq_true (al w hw)
    rw [this, Bool.true_and] at q
    try simp -dsimp -implicitDefEqProofs only [↓rds17, ↓rds15, ↓rds14, ↓rds13, ↓rds1, ↓rds2, ↓rds3, ↓rds4, ↓rds5, ↓rds6, ↓rds7, ↓rds8, ↓rds9, ↓rds10, ↓rds11, List.set_cons_zero, List.set_cons_succ, ne_eq, not_false_eq_true, decide_eq_true_eq, Bool.or_true, Bool.or_false, Bool.true_or, Bool.false_or, Bool.and_true, Bool.true_and, Bool.and_false, Bool.false_and, Bool.not_true, Bool.not_false, reduceCtorEq, beq_self_eq_true, true_and, and_true, if_true, if_false, Bool.false_eq_true]
    refine cl_i ⟨rfl, _, ws, rfl, .inl rfl, hl, ?_⟩
    try simp -dsimp -implicitDefEqProofs only [↓rds17, ↓rds15, ↓rds14, ↓rds13, ↓rds1, ↓rds2, ↓rds3, ↓rds4, ↓rds5, ↓rds6, ↓rds7, ↓rds8, ↓rds9, ↓rds10, ↓rds11, List.set_cons_zero, List.set_cons_succ, ne_eq, not_false_eq_true, decide_eq_true_eq, Bool.or_true, Bool.or_false, Bool.true_or, Bool.false_or, Bool.and_true, Bool.true_and, Bool.and_false, Bool.false_and, Bool.not_true, Bool.not_false, reduceCtorEq, beq_self_eq_true, true_and, and_true, if_true, if_false, Bool.false_eq_true]
    refine dIte_by (fun c => ?_) fun c => ?_
    · have nd : ¬ ws.Nodup := by simpa using c
      have : ¬ ordL kind ws = ws := fun e => nd (by rw [← e]; exact (ws_nodup hk).sublist List.filter_sublist)
      rw [decide_eq_false this] at q
      try simp -dsimp -implicitDefEqProofs only [↓rds17, ↓rds15, ↓rds14, ↓rds13, ↓rds1, ↓rds2, ↓rds3, ↓rds4, ↓rds5, ↓rds6, ↓rds7, ↓rds8, ↓rds9, ↓rds10, ↓rds11, List.set_cons_zero, List.set_cons_succ, ne_eq, not_false_eq_true, decide_eq_true_eq, Bool.or_true, Bool.or_false, Bool.true_or, Bool.false_or, Bool.and_true, Bool.true_and, Bool.and_false, Bool.false_and, Bool.not_true, Bool.not_false, reduceCtorEq, beq_self_eq_true, true_and, and_true, if_true, if_false, Bool.false_eq_true]
      exact finI (sub1.trans (Sub.put hr)) q
    try simp -dsimp -implicitDefEqProofs only [↓rds17, ↓rds15, ↓rds14, ↓rds13, ↓rds1, ↓rds2, ↓rds3, ↓rds4, ↓rds5, ↓rds6, ↓rds7, ↓rds8, ↓rds9, ↓rds10, ↓rds11, List.set_cons_zero, List.set_cons_succ, ne_eq, not_false_eq_true, decide_eq_true_eq, Bool.or_true, Bool.or_false, Bool.true_or, Bool.false_or, Bool.and_true, Bool.true_and, Bool.and_false, Bool.false_and, Bool.not_true, Bool.not_false, reduceCtorEq, beq_self_eq_true, true_and, and_true, if_true, if_false, Bool.false_eq_true]
    refine cl_i ⟨rfl, kind, _, ws, h, rfl, hk, .inl (.inl rfl), al, hl, sub1.trans (Sub.put hr), ?_⟩
    try simp -dsimp -implicitDefEqProofs only [↓rds17, ↓rds15, ↓rds14, ↓rds13, ↓rds1, ↓rds2, ↓rds3, ↓rds4, ↓rds5, ↓rds6, ↓rds7, ↓rds8, ↓rds9, ↓rds10, ↓rds11, List.set_cons_zero, List.set_cons_succ, ne_eq, not_false_eq_true, decide_eq_true_eq, Bool.or_true, Bool.or_false, Bool.true_or, Bool.false_or, Bool.and_true, Bool.true_and, Bool.and_false, Bool.false_and, Bool.not_true, Bool.not_false, reduceCtorEq, beq_self_eq_true, true_and, and_true, if_true, if_false, Bool.false_eq_true]
    refine ⟨by rw [plD_sD, plD_sD]; rfl, ?_⟩
    rw [eqD_sD, show decide (ws = ordL kind ws) = decide (ordL kind ws = ws) from decide_eq_decide.mpr ⟨Eq.symm, Eq.symm⟩]
    exact finR q
  · rw [Bool.not_eq_true] at ht
    have : lotB kind d = false := by
      unfold lotB
      split
      · cases ht
      · rfl
    rw [this] at q
    try simp -dsimp -implicitDefEqProofs only [↓rds17, ↓rds15, ↓rds14, ↓rds13, ↓rds1, ↓rds2, ↓rds3, ↓rds4, ↓rds5, ↓rds6, ↓rds7, ↓rds8, ↓rds9, ↓rds10, ↓rds11, List.set_cons_zero, List.set_cons_succ, ne_eq, not_false_eq_true, decide_eq_true_eq, Bool.or_true, Bool.or_false, Bool.true_or, Bool.false_or, Bool.and_true, Bool.true_and, Bool.and_false, Bool.false_and, Bool.not_true, Bool.not_false, reduceCtorEq, beq_self_eq_true, true_and, and_true, if_true, if_false, Bool.false_eq_true, e1, e2, ht]
    exact finR q
theorem cmp_keep {h : Hd} {ws : List Str} {chk : Hd → Prop} {i j : Nat} {y : D} {σ : Sd} {Q : List D → Hd → Prop} {b : BxC Q} {P : R2d} (p : Str → Bool) (hP : ∀ (w : Str) (Q : KD), Q (.v (.bl (p w))) h → P (.v (.str w)) y h Q) (hi : i < σ.length) (hj : gS σ j = some y) (ne : i ≠ j) (hc : chk h) (hl : ws.length ≤ 1000)
    (q : Q ((ws.filter p).map sD) h) : cmp (nG i) (dTest (d2 P (dVar i) (dVar j))) (dVar i) chk (ws.map sD) σ h Q b := by
  refine cmp_of (selS p) hc (by rw [List.length_map]; omega) ?_ (by rw [selS_map]; exact q)
  intro x hx S N h1 h2
  obtain ⟨w, hw, rfl⟩ := List.mem_map.mp hx
  have h1 : ∀ y, (if p w = true then some (sD w) else none) = some y → S y h := h1
  have h2 : (if p w = true then some (sD w) else none) = none → N h := h2
  try simp -dsimp -implicitDefEqProofs only [↓rds17, ↓rds15, ↓rds14, ↓rds13, ↓rds1, ↓rds2, ↓rds3, ↓rds4, ↓rds5, ↓rds6, ↓rds7, ↓rds8, ↓rds9, ↓rds10, ↓rds11, List.set_cons_zero, List.set_cons_succ, ne_eq, not_false_eq_true, decide_eq_true_eq, Bool.or_true, Bool.or_false, Bool.true_or, Bool.false_or, Bool.and_true, Bool.true_and, Bool.and_false, Bool.false_and, Bool.not_true, Bool.not_false, reduceCtorEq, beq_self_eq_true, true_and, and_true, if_true, if_false, Bool.false_eq_true, sD, gS_same σ i (D.v (.str w)) hi, gS_ne σ i j (D.v (.str w)) ne, hj]
  refine hP w _ ?_
  try simp -dsimp -implicitDefEqProofs only [↓rds17, ↓rds15, ↓rds14, ↓rds13, ↓rds1, ↓rds2, ↓rds3, ↓rds4, ↓rds5, ↓rds6, ↓rds7, ↓rds8, ↓rds9, ↓rds10, ↓rds11, List.set_cons_zero, List.set_cons_succ, ne_eq, not_false_eq_true, decide_eq_true_eq, Bool.or_true, Bool.or_false, Bool.true_or, Bool.false_or, Bool.and_true, Bool.true_and, Bool.and_false, Bool.false_and, Bool.not_true, Bool.not_false, reduceCtorEq, beq_self_eq_true, true_and, and_true, if_true, if_false, Bool.false_eq_true]
  refine dIte_by (fun c => ?_) fun c => ?_
  · try simp -dsimp -implicitDefEqProofs only [↓rds17, ↓rds15, ↓rds14, ↓rds13, ↓rds1, ↓rds2, ↓rds3, ↓rds4, ↓rds5, ↓rds6, ↓rds7, ↓rds8, ↓rds9, ↓rds10, ↓rds11, List.set_cons_zero, List.set_cons_succ, ne_eq, not_false_eq_true, decide_eq_true_eq, Bool.or_true, Bool.or_false, Bool.true_or, Bool.false_or, Bool.and_true, Bool.true_and, Bool.and_false, Bool.false_and, Bool.not_true, Bool.not_false, reduceCtorEq, beq_self_eq_true, true_and, and_true, if_true, if_false, Bool.false_eq_true, sD, gS_same σ i (D.v (.str w)) hi]
    exact h1 _ (if_pos c)
  · exact h2 (if_neg c)
def sp_law_lot : SpD := fun ds h Q _ => ds.length = 2 ∧ ∃ (kind : Str) (d : D) (ws : List Str) (h0 : Hd), ds = [.v (.str kind), d] ∧ kind ∈ kds ∧ SeqK h d ws ∧ ws.length ≤ 100000 ∧ Sub h0 h ∧ Q (.t ((ordL kind ws).map sD)) h0
def rd_law_lot (E : ER) : SD :=
  dSeq (dAsg (dNewK) (nG 2))
  (dSeq (dForA (dVar 1) (nG 3) (dAsg (dC (.v (.bl true))) (subG (dVar 2) (dVar 3) setK)))
  (dRet (dCB cTuple (dCons (dLc (iAnyD (dCall sp_law_ways E (dCons (dVar 0) (dNil)))) (nG 4) (dTest (d2 pMem (dVar 4) (dVar 2))) (dVar 4) [4]) (dNil)))))
abbrev N_law_lot : List Str := ["kind", "words", "inner", "word", "way"]
theorem ok_law_lot : ∀ ds h Q E, sp_law_lot ds h Q E → rd_law_lot (fun x _ h' => E x h') (fin Q) (startD N_law_lot ds) h := by
  rintro ds h Q E ⟨_, kind, d, ws, h0, rfl, hk, sq, hl, sb, q⟩
  show rd_law_lot _ _ [some (.v (.str kind)), some d, none, none, none] h
  unfold rd_law_lot
  try simp -dsimp -implicitDefEqProofs only [↓rds17, ↓rds15, ↓rds14, ↓rds13, ↓rds1, ↓rds2, ↓rds3, ↓rds4, ↓rds5, ↓rds6, ↓rds7, ↓rds8, ↓rds9, ↓rds10, ↓rds11, List.set_cons_zero, List.set_cons_succ, ne_eq, not_false_eq_true, decide_eq_true_eq, Bool.or_true, Bool.or_false, Bool.true_or, Bool.false_or, Bool.and_true, Bool.true_and, Bool.and_false, Bool.false_and, Bool.not_true, Bool.not_false, reduceCtorEq, beq_self_eq_true, true_and, and_true, if_true, if_false, Bool.false_eq_true]
  refine al_i fun f hf => ?_
  try simp -dsimp -implicitDefEqProofs only [↓rds17, ↓rds15, ↓rds14, ↓rds13, ↓rds1, ↓rds2, ↓rds3, ↓rds4, ↓rds5, ↓rds6, ↓rds7, ↓rds8, ↓rds9, ↓rds10, ↓rds11, List.set_cons_zero, List.set_cons_succ, ne_eq, not_false_eq_true, decide_eq_true_eq, Bool.or_true, Bool.or_false, Bool.true_or, Bool.false_or, Bool.and_true, Bool.true_and, Bool.and_false, Bool.false_and, Bool.not_true, Bool.not_false, reduceCtorEq, beq_self_eq_true, true_and, and_true, if_true, if_false, Bool.false_eq_true]
  refine forA_seq sq hf fun chk D2 h1 hchk hD2 => ?_
  refine loop_of (fun i σ h' => h' = put h1 f (.dk (keysS (dd (ws.take i)))) ∧ ∃ v, σ = [some (.v (.str kind)), some d, some (.v (.ref f)), v, none]) ⟨rfl, _, rfl⟩ (fun i σ h' _ ⟨e, _⟩ => by rw [e]; exact hchk _) ?_ ?_
  · rintro i x σ h' hx ⟨rfl, v, rfl⟩ N hN
    obtain ⟨w, hw1, rfl⟩ := sD_get hx
    have ld := len_dd (ws.take i)
    rw [List.length_take] at ld
    try simp -dsimp -implicitDefEqProofs only [↓rds17, ↓rds15, ↓rds14, ↓rds13, ↓rds1, ↓rds2, ↓rds3, ↓rds4, ↓rds5, ↓rds6, ↓rds7, ↓rds8, ↓rds9, ↓rds10, ↓rds11, List.set_cons_zero, List.set_cons_succ, ne_eq, not_false_eq_true, decide_eq_true_eq, Bool.or_true, Bool.or_false, Bool.true_or, Bool.false_or, Bool.and_true, Bool.true_and, Bool.and_false, Bool.false_and, Bool.not_true, Bool.not_false, reduceCtorEq, beq_self_eq_true, true_and, and_true, if_true, if_false, Bool.false_eq_true, sD]
    refine ⟨?_, ?_⟩
    · rw [keysS_len]
      exact Nat.lt_of_le_of_lt (show _ ≤ 100000 by omega) (by decide)
    · rw [putS, ← dd_take hw1]
      exact hN _ _ ⟨rfl, _, rfl⟩
  · rintro σ h' ⟨rfl, v, rfl⟩
    rw [show ws.take (ws.map sD).length = ws from List.take_of_length_le (by rw [List.length_map]; exact Nat.le_refl _)]
    refine hD2 _ _ ?_
    try simp -dsimp -implicitDefEqProofs only [↓rds17, ↓rds15, ↓rds14, ↓rds13, ↓rds1, ↓rds2, ↓rds3, ↓rds4, ↓rds5, ↓rds6, ↓rds7, ↓rds8, ↓rds9, ↓rds10, ↓rds11, List.set_cons_zero, List.set_cons_succ, ne_eq, not_false_eq_true, decide_eq_true_eq, Bool.or_true, Bool.or_false, Bool.true_or, Bool.false_or, Bool.and_true, Bool.true_and, Bool.and_false, Bool.false_and, Bool.not_true, Bool.not_false, reduceCtorEq, beq_self_eq_true, true_and, and_true, if_true, if_false, Bool.false_eq_true]
    refine cl_i ⟨rfl, kind, rfl, hk, fun r hr => ?_⟩
    have nr := nf hr
    try simp -dsimp -implicitDefEqProofs only [↓rds17, ↓rds15, ↓rds14, ↓rds13, ↓rds1, ↓rds2, ↓rds3, ↓rds4, ↓rds5, ↓rds6, ↓rds7, ↓rds8, ↓rds9, ↓rds10, ↓rds11, List.set_cons_zero, List.set_cons_succ, ne_eq, not_false_eq_true, decide_eq_true_eq, Bool.or_true, Bool.or_false, Bool.true_or, Bool.false_or, Bool.and_true, Bool.true_and, Bool.and_false, Bool.false_and, Bool.not_true, Bool.not_false, reduceCtorEq, beq_self_eq_true, true_and, and_true, if_true, if_false, Bool.false_eq_true]
    refine cmp_keep (i := 4) (j := 2) (fun w => decide (w ∈ ws)) (fun w Q q => ?_) (by show 4 < 5; decide) rfl (by decide) (rdL_l put_same) (Nat.le_trans (ws_ne hk).2 (by decide)) ?_
    · have g : put (put h f (.dk (keysS (dd ws)))) r (.lst ((wsL kind).map sD)) f = some (.dk (keysS (dd ws))) := by rw [put_ne nr.symm, put_same]
      try simp -dsimp -implicitDefEqProofs only [↓rds17, ↓rds15, ↓rds14, ↓rds13, ↓rds1, ↓rds2, ↓rds3, ↓rds4, ↓rds5, ↓rds6, ↓rds7, ↓rds8, ↓rds9, ↓rds10, ↓rds11, List.set_cons_zero, List.set_cons_succ, ne_eq, not_false_eq_true, decide_eq_true_eq, Bool.or_true, Bool.or_false, Bool.true_or, Bool.false_or, Bool.and_true, Bool.true_and, Bool.and_false, Bool.false_and, Bool.not_true, Bool.not_false, reduceCtorEq, beq_self_eq_true, true_and, and_true, if_true, if_false, Bool.false_eq_true, g, valS_in, mem_dd]
      exact q
    intro p hp
    try simp -dsimp -implicitDefEqProofs only [↓rds17, ↓rds15, ↓rds14, ↓rds13, ↓rds1, ↓rds2, ↓rds3, ↓rds4, ↓rds5, ↓rds6, ↓rds7, ↓rds8, ↓rds9, ↓rds10, ↓rds11, List.set_cons_zero, List.set_cons_succ, ne_eq, not_false_eq_true, decide_eq_true_eq, Bool.or_true, Bool.or_false, Bool.true_or, Bool.false_or, Bool.and_true, Bool.true_and, Bool.and_false, Bool.false_and, Bool.not_true, Bool.not_false, reduceCtorEq, beq_self_eq_true, true_and, and_true, if_true, if_false, Bool.false_eq_true]
    exact finI (sb.trans ((Sub.put hf).trans ((Sub.put hr).trans (Sub.put hp)))) q
def Lot (kind : Str) (ws : List Str) : Prop := ordL kind ws = ws
theorem Lot.mem {kind w : Str} {ws : List Str} (l : Lot kind ws) (h : w ∈ ws) : w ∈ wsL kind := by
  have : w ∈ ordL kind ws := by rw [l]; exact h
  exact (mem_ordL.mp this).1
theorem Lot.len {kind : Str} {ws : List Str} (hk : kind ∈ kds) (l : Lot kind ws) : ws.length ≤ 169 := by
  have := ordL_len hk ws
  rw [l] at this
  exact this
theorem lot_all (kind : Str) : Lot kind (wsL kind) := List.filter_eq_self.mpr fun w hw => decide_eq_true hw
theorem lot_filter {kind : Str} (p : Str → Bool) : Lot kind ((wsL kind).filter p) := by
  unfold Lot ordL
  refine List.filter_congr fun w hw => ?_
  by_cases c : p w = true
  · rw [c]; exact decide_eq_true (List.mem_filter.mpr ⟨hw, c⟩)
  · rw [Bool.not_eq_true] at c
    rw [c]
    exact decide_eq_false fun h => by rw [(List.mem_filter.mp h).2] at c; cases c
theorem lot_ord (kind : Str) (ws : List Str) : Lot kind (ordL kind ws) := ordL_ordL kind ws
def sp_law_drawn_lot : SpD := fun ds h Q _ => ds.length = 3 ∧ ∃ (p q : Addr) (cells : List Int) (kind : Str) (most : Int), ds = [.v (.ref p), .v (.str kind), .v (.int most)] ∧ PoolAt h p q cells ∧ kind ∈ kds ∧ 1 ≤ most ∧ most ≤ 100 ∧ ∀ (ws : List Str) (s : Int × Int × Int), Lot kind ws → Q (.t (ws.map sD)) (put h p (poolO q s))
def rd_law_drawn_lot (E : ER) : SD :=
  dSeq (dAsg (dCall sp_law_ways E (dCons (dVar 1) (dNil))) (nG 3))
  (dSeq (dAsg (dCall sp_law_draw E (dCons (dVar 0) (dCons (dC (.v (.int 12))) (dNil)))) (nG 4))
  (dSeq (dIfS (dTest (d2 pEqA (dVar 4) (dC (.v (.int 0))))) (dRet (dCB cTuple (dCons (dVar 3) (dNil)))) (dNext))
  (dSeq (dIfS (dTest (d2 pEqA (dVar 4) (dC (.v (.int 1))))) (dRet (dTup (dNil))) (dNext))
  (dSeq (dAsg (dLc (iRng1D (dCons (d2 pAdd (dC (.v (.int 1))) (dCall sp_law_draw E (dCons (dVar 0) (dCons (dVar 2) (dNil))))) (dNil))) (nG 6) (dYes) (d2 pIt (dVar 3) (dCall sp_law_draw E0d (dCons (dVar 0) (dCons (dCB cLen (dCons (dVar 3) (dNil))) (dNil))))) [6]) (nG 5))
  (dSeq (dIfS (dTest (d2 pEqA (dVar 4) (dC (.v (.int 2))))) (dRet (dCB cTuple (dCons (dLc (iAnyD (dVar 3)) (nG 7) (dTest (d2 pNotMem (dVar 7) (dVar 5))) (dVar 7) [7]) (dNil)))) (dNext))
  (dRet (dCall sp_law_lot E (dCons (dVar 1) (dCons (dVar 5) (dNil))))))))))
abbrev N_law_drawn_lot : List Str := ["pool", "kind", "most", "every", "choice", "found", "turn", "way"]
theorem ok_law_drawn_lot : ∀ ds h Q E, sp_law_drawn_lot ds h Q E → rd_law_drawn_lot (fun x _ h' => E x h') (fin Q) (startD N_law_drawn_lot ds) h := by
  rintro ds h Q E ⟨_, p, q, cells, kind, most, rfl, P, hk, m1, m2, ret⟩
  show rd_law_drawn_lot _ _ [some (.v (.ref p)), some (.v (.str kind)), some (.v (.int most)), none, none, none, none, none] h
  unfold rd_law_drawn_lot
  try simp -dsimp -implicitDefEqProofs only [↓rds17, ↓rds15, ↓rds14, ↓rds13, ↓rds1, ↓rds2, ↓rds3, ↓rds4, ↓rds5, ↓rds6, ↓rds7, ↓rds8, ↓rds9, ↓rds10, ↓rds11, List.set_cons_zero, List.set_cons_succ, ne_eq, not_false_eq_true, decide_eq_true_eq, Bool.or_true, Bool.or_false, Bool.true_or, Bool.false_or, Bool.and_true, Bool.true_and, Bool.and_false, Bool.false_and, Bool.not_true, Bool.not_false, reduceCtorEq, beq_self_eq_true, true_and, and_true, if_true, if_false, Bool.false_eq_true]
  refine cl_i ⟨rfl, kind, rfl, hk, fun r hr => ?_⟩
  have nr := pool_ne P hr
  have P1 := pool_keep (o := .lst ((wsL kind).map sD)) P hr
  have x1 : SubX p h (put h r (.lst ((wsL kind).map sD))) := (SubX.refl p h).new hr
  have g1 : put h r (.lst ((wsL kind).map sD)) r = some (.lst ((wsL kind).map sD)) := put_same
  generalize put h r (.lst ((wsL kind).map sD)) = h1 at P1 x1 g1
  try simp -dsimp -implicitDefEqProofs only [↓rds17, ↓rds15, ↓rds14, ↓rds13, ↓rds1, ↓rds2, ↓rds3, ↓rds4, ↓rds5, ↓rds6, ↓rds7, ↓rds8, ↓rds9, ↓rds10, ↓rds11, List.set_cons_zero, List.set_cons_succ, ne_eq, not_false_eq_true, decide_eq_true_eq, Bool.or_true, Bool.or_false, Bool.true_or, Bool.false_or, Bool.and_true, Bool.true_and, Bool.and_false, Bool.false_and, Bool.not_true, Bool.not_false, reduceCtorEq, beq_self_eq_true, true_and, and_true, if_true, if_false, Bool.false_eq_true]
  refine cl_i ⟨rfl, p, q, cells, 12, rfl, P1, by decide, by decide, fun k s k0 k1 => ?_⟩
  have P2 := pool_put P1 s
  have x2 := x1.set (o := poolO q s)
  have g2 : put h1 p (poolO q s) r = some (.lst ((wsL kind).map sD)) := by rw [put_ne nr.1]; exact g1
  have gp2 : put h1 p (poolO q s) p = some (poolO q s) := put_same
  generalize put h1 p (poolO q s) = h2 at P2 x2 g2 gp2
  obtain ⟨w1, w2⟩ := ws_ne hk
  try simp -dsimp -implicitDefEqProofs only [↓rds17, ↓rds15, ↓rds14, ↓rds13, ↓rds1, ↓rds2, ↓rds3, ↓rds4, ↓rds5, ↓rds6, ↓rds7, ↓rds8, ↓rds9, ↓rds10, ↓rds11, List.set_cons_zero, List.set_cons_succ, ne_eq, not_false_eq_true, decide_eq_true_eq, Bool.or_true, Bool.or_false, Bool.true_or, Bool.false_or, Bool.and_true, Bool.true_and, Bool.and_false, Bool.false_and, Bool.not_true, Bool.not_false, reduceCtorEq, beq_self_eq_true, true_and, and_true, if_true, if_false, Bool.false_eq_true]
  refine dIte_by (fun e => ?_) fun e => ?_
  · try simp -dsimp -implicitDefEqProofs only [↓rds17, ↓rds15, ↓rds14, ↓rds13, ↓rds1, ↓rds2, ↓rds3, ↓rds4, ↓rds5, ↓rds6, ↓rds7, ↓rds8, ↓rds9, ↓rds10, ↓rds11, List.set_cons_zero, List.set_cons_succ, ne_eq, not_false_eq_true, decide_eq_true_eq, Bool.or_true, Bool.or_false, Bool.true_or, Bool.false_or, Bool.and_true, Bool.true_and, Bool.and_false, Bool.false_and, Bool.not_true, Bool.not_false, reduceCtorEq, beq_self_eq_true, true_and, and_true, if_true, if_false, Bool.false_eq_true, g2]
    exact finI (x2.fin gp2) (ret _ s (lot_all kind))
  try simp -dsimp -implicitDefEqProofs only [↓rds17, ↓rds15, ↓rds14, ↓rds13, ↓rds1, ↓rds2, ↓rds3, ↓rds4, ↓rds5, ↓rds6, ↓rds7, ↓rds8, ↓rds9, ↓rds10, ↓rds11, List.set_cons_zero, List.set_cons_succ, ne_eq, not_false_eq_true, decide_eq_true_eq, Bool.or_true, Bool.or_false, Bool.true_or, Bool.false_or, Bool.and_true, Bool.true_and, Bool.and_false, Bool.false_and, Bool.not_true, Bool.not_false, reduceCtorEq, beq_self_eq_true, true_and, and_true, if_true, if_false, Bool.false_eq_true]
  refine dIte_by (fun e => ?_) fun e => ?_
  · try simp -dsimp -implicitDefEqProofs only [↓rds17, ↓rds15, ↓rds14, ↓rds13, ↓rds1, ↓rds2, ↓rds3, ↓rds4, ↓rds5, ↓rds6, ↓rds7, ↓rds8, ↓rds9, ↓rds10, ↓rds11, List.set_cons_zero, List.set_cons_succ, ne_eq, not_false_eq_true, decide_eq_true_eq, Bool.or_true, Bool.or_false, Bool.true_or, Bool.false_or, Bool.and_true, Bool.true_and, Bool.and_false, Bool.false_and, Bool.not_true, Bool.not_false, reduceCtorEq, beq_self_eq_true, true_and, and_true, if_true, if_false, Bool.false_eq_true]
    exact finI (x2.fin gp2) (ret [] s (by unfold Lot ordL; simp))
  try simp -dsimp -implicitDefEqProofs only [↓rds17, ↓rds15, ↓rds14, ↓rds13, ↓rds1, ↓rds2, ↓rds3, ↓rds4, ↓rds5, ↓rds6, ↓rds7, ↓rds8, ↓rds9, ↓rds10, ↓rds11, List.set_cons_zero, List.set_cons_succ, ne_eq, not_false_eq_true, decide_eq_true_eq, Bool.or_true, Bool.or_false, Bool.true_or, Bool.false_or, Bool.and_true, Bool.true_and, Bool.and_false, Bool.false_and, Bool.not_true, Bool.not_false, reduceCtorEq, beq_self_eq_true, true_and, and_true, if_true, if_false, Bool.false_eq_true]
  refine cl_i ⟨rfl, p, q, cells, most, rfl, P2, by omega, log_small (by omega) (by omega), fun m s m0 m1 => ?_⟩
  have P3 := pool_put P2 s
  have x3 := x2.set (o := poolO q s)
  have g3 : put h2 p (poolO q s) r = some (.lst ((wsL kind).map sD)) := by rw [put_ne nr.1]; exact g2
  generalize put h2 p (poolO q s) = h3 at P3 x3 g3
  try simp -dsimp -implicitDefEqProofs only [↓rds17, ↓rds15, ↓rds14, ↓rds13, ↓rds1, ↓rds2, ↓rds3, ↓rds4, ↓rds5, ↓rds6, ↓rds7, ↓rds8, ↓rds9, ↓rds10, ↓rds11, List.set_cons_zero, List.set_cons_succ, ne_eq, not_false_eq_true, decide_eq_true_eq, Bool.or_true, Bool.or_false, Bool.true_or, Bool.false_or, Bool.and_true, Bool.true_and, Bool.and_false, Bool.false_and, Bool.not_true, Bool.not_false, reduceCtorEq, beq_self_eq_true, true_and, and_true, if_true, if_false, Bool.false_eq_true]
  have lr : (rangeD 0 (1 + m).toNat).length ≤ 200 := by unfold rangeD; rw [List.length_map, List.length_range]; omega
  refine ⟨by omega, cmp_inv (fun acc h' => PoolAt h' p q cells ∧ SubX p h h' ∧ h' r = some (.lst ((wsL kind).map sD)) ∧ ∃ ws : List Str, acc = ws.map sD ∧ ∀ w ∈ ws, w ∈ wsL kind) ⟨P3, x3, g3, [], rfl, by simp⟩ (fun _ _ _ => trivial) (by omega) ?_ ?_⟩
  · rintro x acc h' hx ⟨P, xx, g, ws, rfl, hw⟩ la S N hS
    try simp -dsimp -implicitDefEqProofs only [↓rds17, ↓rds15, ↓rds14, ↓rds13, ↓rds1, ↓rds2, ↓rds3, ↓rds4, ↓rds5, ↓rds6, ↓rds7, ↓rds8, ↓rds9, ↓rds10, ↓rds11, List.set_cons_zero, List.set_cons_succ, ne_eq, not_false_eq_true, decide_eq_true_eq, Bool.or_true, Bool.or_false, Bool.true_or, Bool.false_or, Bool.and_true, Bool.true_and, Bool.and_false, Bool.false_and, Bool.not_true, Bool.not_false, reduceCtorEq, beq_self_eq_true, true_and, and_true, if_true, if_false, Bool.false_eq_true, g, List.length_map]
    refine cl_i ⟨rfl, p, q, cells, ((wsL kind).length : Int), rfl, P, by omega, log_small (by omega) (by omega), fun k2 s2 k20 k21 => ?_⟩
    obtain ⟨z, hz, ez⟩ := at_list k20 k21
    have g' : put h' p (poolO q s2) r = some (.lst ((wsL kind).map sD)) := by rw [put_ne nr.1]; exact g
    try simp -dsimp -implicitDefEqProofs only [↓rds17, ↓rds15, ↓rds14, ↓rds13, ↓rds1, ↓rds2, ↓rds3, ↓rds4, ↓rds5, ↓rds6, ↓rds7, ↓rds8, ↓rds9, ↓rds10, ↓rds11, List.set_cons_zero, List.set_cons_succ, ne_eq, not_false_eq_true, decide_eq_true_eq, Bool.or_true, Bool.or_false, Bool.true_or, Bool.false_or, Bool.and_true, Bool.true_and, Bool.and_false, Bool.false_and, Bool.not_true, Bool.not_false, reduceCtorEq, beq_self_eq_true, true_and, and_true, if_true, if_false, Bool.false_eq_true, g', ez]
    refine hS _ _ ⟨pool_put P s2, xx.set, g', ws ++ [z], by rw [List.map_append]; rfl, fun w hw' => ?_⟩
    rcases List.mem_append.mp hw' with k | k
    · exact hw w k
    · rw [List.mem_singleton.mp k]; exact hz
  rintro acc h4 lacc ⟨P, xx, g, ws, rfl, hw⟩
  rw [List.length_map] at lacc
  obtain ⟨st, gst⟩ := P.st
  intro f hf
  have gf : put h4 f (.lst (ws.map sD)) f = some (.lst (ws.map sD)) := put_same
  have gr : put h4 f (.lst (ws.map sD)) r = some (.lst ((wsL kind).map sD)) := by rw [put_ne (on g hf)]; exact g
  have gp : put h4 f (.lst (ws.map sD)) p = some (poolO q st) := by rw [put_ne (on gst hf)]; exact gst
  have x5 := xx.new (o := .lst (ws.map sD)) hf
  generalize put h4 f (.lst (ws.map sD)) = h5 at gf gr gp x5
  try simp -dsimp -implicitDefEqProofs only [↓rds17, ↓rds15, ↓rds14, ↓rds13, ↓rds1, ↓rds2, ↓rds3, ↓rds4, ↓rds5, ↓rds6, ↓rds7, ↓rds8, ↓rds9, ↓rds10, ↓rds11, List.set_cons_zero, List.set_cons_succ, ne_eq, not_false_eq_true, decide_eq_true_eq, Bool.or_true, Bool.or_false, Bool.true_or, Bool.false_or, Bool.and_true, Bool.true_and, Bool.and_false, Bool.false_and, Bool.not_true, Bool.not_false, reduceCtorEq, beq_self_eq_true, true_and, and_true, if_true, if_false, Bool.false_eq_true]
  refine dIte_by (fun e => ?_) fun e => ?_
  · try simp -dsimp -implicitDefEqProofs only [↓rds17, ↓rds15, ↓rds14, ↓rds13, ↓rds1, ↓rds2, ↓rds3, ↓rds4, ↓rds5, ↓rds6, ↓rds7, ↓rds8, ↓rds9, ↓rds10, ↓rds11, List.set_cons_zero, List.set_cons_succ, ne_eq, not_false_eq_true, decide_eq_true_eq, Bool.or_true, Bool.or_false, Bool.true_or, Bool.false_or, Bool.and_true, Bool.true_and, Bool.and_false, Bool.false_and, Bool.not_true, Bool.not_false, reduceCtorEq, beq_self_eq_true, true_and, and_true, if_true, if_false, Bool.false_eq_true, gr]
    refine cmp_keep (i := 7) (j := 5) (y := .v (.ref f)) (fun w => !decide (w ∈ ws)) (fun w Q q => ?_) (by show 7 < 8; decide) rfl (by decide) (rdL_l gr) (by omega) ?_
    · try simp -dsimp -implicitDefEqProofs only [↓rds17, ↓rds15, ↓rds14, ↓rds13, ↓rds1, ↓rds2, ↓rds3, ↓rds4, ↓rds5, ↓rds6, ↓rds7, ↓rds8, ↓rds9, ↓rds10, ↓rds11, List.set_cons_zero, List.set_cons_succ, ne_eq, not_false_eq_true, decide_eq_true_eq, Bool.or_true, Bool.or_false, Bool.true_or, Bool.false_or, Bool.and_true, Bool.true_and, Bool.and_false, Bool.false_and, Bool.not_true, Bool.not_false, reduceCtorEq, beq_self_eq_true, true_and, and_true, if_true, if_false, Bool.false_eq_true, gf, inL_sD, flat_sD]
      exact ⟨rfl, q⟩
    intro c hc
    try simp -dsimp -implicitDefEqProofs only [↓rds17, ↓rds15, ↓rds14, ↓rds13, ↓rds1, ↓rds2, ↓rds3, ↓rds4, ↓rds5, ↓rds6, ↓rds7, ↓rds8, ↓rds9, ↓rds10, ↓rds11, List.set_cons_zero, List.set_cons_succ, ne_eq, not_false_eq_true, decide_eq_true_eq, Bool.or_true, Bool.or_false, Bool.true_or, Bool.false_or, Bool.and_true, Bool.true_and, Bool.and_false, Bool.false_and, Bool.not_true, Bool.not_false, reduceCtorEq, beq_self_eq_true, true_and, and_true, if_true, if_false, Bool.false_eq_true]
    exact finI ((x5.fin gp).trans (Sub.put hc)) (ret _ st (lot_filter _))
  · try simp -dsimp -implicitDefEqProofs only [↓rds17, ↓rds15, ↓rds14, ↓rds13, ↓rds1, ↓rds2, ↓rds3, ↓rds4, ↓rds5, ↓rds6, ↓rds7, ↓rds8, ↓rds9, ↓rds10, ↓rds11, List.set_cons_zero, List.set_cons_succ, ne_eq, not_false_eq_true, decide_eq_true_eq, Bool.or_true, Bool.or_false, Bool.true_or, Bool.false_or, Bool.and_true, Bool.true_and, Bool.and_false, Bool.false_and, Bool.not_true, Bool.not_false, reduceCtorEq, beq_self_eq_true, true_and, and_true, if_true, if_false, Bool.false_eq_true]
    refine cl_i ⟨rfl, kind, _, ws, put h p (poolO q st), rfl, hk, .inl (.inr ⟨f, rfl, gf⟩), by omega, x5.fin gp, ?_⟩
    exact finR (ret _ st (lot_ord kind ws))
end DL
namespace DL
open PySem L2
theorem lot_asc {kind : Str} (hk : kind ∈ kds) {ws : List Str} : Lot kind ws ↔ (∀ w ∈ ws, w ∈ wsL kind) ∧ (ws.map (pofI kind)).Pairwise (· < ·) := by
  constructor
  · intro l
    refine ⟨fun w hw => l.mem hw, ?_⟩
    have := ordL_asc hk ws
    rw [show ordL kind ws = ws from l] at this
    exact this
  · rintro ⟨h1, h2⟩
    have e : (ordL kind ws).map (pofI kind) = ws.map (pofI kind) := ext_asc (ordL_asc hk ws) h2 fun x => by
      rw [List.mem_map, List.mem_map]
      constructor
      · rintro ⟨w, hw, e⟩; exact ⟨w, (mem_ordL.mp hw).2, e⟩
      · rintro ⟨w, hw, e⟩; exact ⟨w, mem_ordL.mpr ⟨h1 w hw, hw⟩, e⟩
    have e2 := congrArg (List.map (ofP kind)) e
    rw [List.map_map, List.map_map] at e2
    have id1 : ∀ l : List Str, (∀ w ∈ l, w ∈ wsL kind) → l.map (ofP kind ∘ pofI kind) = l := fun l hl => by
      refine Eq.trans (List.map_congr_left fun w hw => ?_) (List.map_id l)
      exact ofP_pof (hl w hw)
    rw [id1 _ fun w hw => (mem_ordL.mp hw).1, id1 _ h1] at e2
    exact e2
theorem ixD_sD {w : Str} : ∀ {l : List Str}, w ∈ l → ixD (sD w) (l.map sD) = some (l.idxOf w)
  | [], h => by cases h
  | a :: r, h => by
    rw [List.map_cons, ixD, List.idxOf_cons]
    have e : eqD (sD a) (sD w) = decide (a = w) := by unfold sD eqD; exact eqV_str
    rw [e]
    by_cases c : a = w
    · subst c; simp
    · have hr : w ∈ r := by
        rcases List.mem_cons.mp h with z | z
        · exact absurd z.symm c
        · exact z
      rw [if_neg (by simpa using c), ixD_sD hr]
      have c' : (a == w) = false := by simpa using c
      rw [c']
      rfl
theorem lotB_true {kind : Str} {xs : List D} (h : lotB kind (.t xs) = true) : ∃ vs : List Str, xs = vs.map sD ∧ Lot kind vs := by
  by_cases a : xs.all isS = true
  · obtain ⟨vs, rfl⟩ := strsD_all a
    rw [lotB_sD, Bool.and_eq_true, decide_eq_true_eq] at h
    exact ⟨vs, rfl, h.2⟩
  · rw [Bool.not_eq_true] at a
    rw [lotB_not a] at h
    cases h
def KnV (h : Hd) (d : D) : Prop := Kn h d ∧ ∀ xs, d = .t xs → xs.length ≤ 1000 ∧ ∀ x ∈ xs, Kn h x ∧ ∀ z, x = sD z → z.length ≤ 1000
theorem KnV.up {h h' : Hd} {d : D} (k : KnV h d) (s : Sub h h') : KnV h' d := ⟨k.1.up s, fun xs e => ⟨(k.2 xs e).1, fun x hx => ⟨((k.2 xs e).2 x hx).1.up s, ((k.2 xs e).2 x hx).2⟩⟩⟩
def sp_law_is_lot : SpD := fun ds h Q _ => ds.length = 2 ∧ ∃ (kind : Str) (d : D), ds = [.v (.str kind), d] ∧ kind ∈ kds ∧ KnV h d ∧ Q (.v (.bl (lotB kind d))) h
def rd_law_is_lot (E : ER) : SD :=
  dSeq (dIfS (dNot (dTest (dCB cIsi (dCons (dVar 1) (dCons (dC (.v (.ty "tuple"))) (dNil)))))) (dRet (dC (.v (.bl false)))) (dNext))
  (dSeq (dAsg (dCall sp_law_ways E (dCons (dVar 0) (dNil))) (nG 2))
  (dSeq (dAsg (d1 pNeg (dC (.v (.int 1)))) (nG 3))
  (dSeq (dFor (iAnyD (dVar 1)) (nG 4) (dSeq (dIfS (dOr (dNot (dTest (dCB cIsi (dCons (dVar 4) (dCons (dC (.v (.ty "str"))) (dNil)))))) (dOr (dTest (d2 pNotMem (dVar 4) (dVar 2))) (dTest (d2 pLe (dBM "list" mIndex (dVar 2) (dCons (dVar 4) (dNil))) (dVar 3))))) (dRet (dC (.v (.bl false)))) (dNext))
  (dAsg (dBM "list" mIndex (dVar 2) (dCons (dVar 4) (dNil))) (nG 3))))
  (dRet (dC (.v (.bl true)))))))
abbrev N_law_is_lot : List Str := ["kind", "value", "every", "last", "word"]
theorem ok_law_is_lot : ∀ ds h Q E, sp_law_is_lot ds h Q E → rd_law_is_lot (fun x _ h' => E x h') (fin Q) (startD N_law_is_lot ds) h := by
  rintro ds h Q E ⟨_, kind, d, rfl, hk, ⟨kn, hx⟩, q⟩
  show rd_law_is_lot _ _ [some (.v (.str kind)), some d, none, none, none] h
  unfold rd_law_is_lot
  obtain ⟨m, e1, e2⟩ := tyName_tup kn
  by_cases ht : isTp d = true
  · obtain ⟨xs, rfl⟩ : ∃ xs, d = .t xs := by
      unfold isTp at ht
      split at ht
      · exact ⟨_, rfl⟩
      · cases ht
    obtain ⟨hl, hx⟩ := hx xs rfl
    try simp -dsimp -implicitDefEqProofs only [↓rds17, ↓rds15, ↓rds14, ↓rds13, ↓rds1, ↓rds2, ↓rds3, ↓rds4, ↓rds5, ↓rds6, ↓rds7, ↓rds8, ↓rds9, ↓rds10, ↓rds11, List.set_cons_zero, List.set_cons_succ, ne_eq, not_false_eq_true, decide_eq_true_eq, Bool.or_true, Bool.or_false, Bool.true_or, Bool.false_or, Bool.and_true, Bool.true_and, Bool.and_false, Bool.false_and, Bool.not_true, Bool.not_false, reduceCtorEq, beq_self_eq_true, true_and, and_true, if_true, if_false, Bool.false_eq_true, e1, e2, ht]
    refine cl_i ⟨rfl, kind, rfl, hk, fun r hr => ?_⟩
    have g0 : put h r (.lst ((wsL kind).map sD)) r = some (.lst ((wsL kind).map sD)) := put_same
    have sb : Sub h (put h r (.lst ((wsL kind).map sD))) := Sub.put hr
    generalize put h r (.lst ((wsL kind).map sD)) = h1 at g0 sb
    try simp -dsimp -implicitDefEqProofs only [↓rds17, ↓rds15, ↓rds14, ↓rds13, ↓rds1, ↓rds2, ↓rds3, ↓rds4, ↓rds5, ↓rds6, ↓rds7, ↓rds8, ↓rds9, ↓rds10, ↓rds11, List.set_cons_zero, List.set_cons_succ, ne_eq, not_false_eq_true, decide_eq_true_eq, Bool.or_true, Bool.or_false, Bool.true_or, Bool.false_or, Bool.and_true, Bool.true_and, Bool.and_false, Bool.false_and, Bool.not_true, Bool.not_false, reduceCtorEq, beq_self_eq_true, true_and, and_true, if_true, if_false, Bool.false_eq_true]
    refine loop_of (fun i σ h' => h' = h1 ∧ ∃ (ws : List Str) (last : Int) (v : Option D), σ = [some (.v (.str kind)), some (.t xs), some (.v (.ref r)), some (.v (.int last)), v] ∧ xs.take i = ws.map sD ∧ (∀ w ∈ ws, w ∈ wsL kind) ∧ (ws.map (pofI kind)).Pairwise (· < ·) ∧ (∀ w ∈ ws, pofI kind w ≤ last) ∧ -1 ≤ last ∧ (ws = [] → last = -1) ∧ (ws ≠ [] → ∃ w ∈ ws, pofI kind w = last)) ⟨rfl, [], -1, none, rfl, rfl, by simp, by simp, by simp, by omega, fun _ => rfl, fun n => absurd rfl n⟩ (fun _ _ _ _ _ => trivial) ?_ ?_
    · rintro i x σ h' hi ⟨rfl, ws, last, v, rfl, ht, hw, ha, hle, hm, hem, hlast⟩ N hN
      have xm := List.mem_of_getElem? hi
      obtain ⟨kx, hz⟩ := hx x xm
      obtain ⟨m, f1, f2⟩ := tyName_str (kx.up sb)
      have bad : lotB kind (.t xs) = false → Q (.v (.bl false)) h := fun e => by rw [e] at q; exact q
      try simp -dsimp -implicitDefEqProofs only [↓rds17, ↓rds15, ↓rds14, ↓rds13, ↓rds1, ↓rds2, ↓rds3, ↓rds4, ↓rds5, ↓rds6, ↓rds7, ↓rds8, ↓rds9, ↓rds10, ↓rds11, List.set_cons_zero, List.set_cons_succ, ne_eq, not_false_eq_true, decide_eq_true_eq, Bool.or_true, Bool.or_false, Bool.true_or, Bool.false_or, Bool.and_true, Bool.true_and, Bool.and_false, Bool.false_and, Bool.not_true, Bool.not_false, reduceCtorEq, beq_self_eq_true, true_and, and_true, if_true, if_false, Bool.false_eq_true, f1, f2]
      refine dIte_by (fun c => ?_) fun c => ?_
      · refine dIte_pos rfl ?_
        try simp -dsimp -implicitDefEqProofs only [↓rds17, ↓rds15, ↓rds14, ↓rds13, ↓rds1, ↓rds2, ↓rds3, ↓rds4, ↓rds5, ↓rds6, ↓rds7, ↓rds8, ↓rds9, ↓rds10, ↓rds11, List.set_cons_zero, List.set_cons_succ, ne_eq, not_false_eq_true, decide_eq_true_eq, Bool.or_true, Bool.or_false, Bool.true_or, Bool.false_or, Bool.and_true, Bool.true_and, Bool.and_false, Bool.false_and, Bool.not_true, Bool.not_false, reduceCtorEq, beq_self_eq_true, true_and, and_true, if_true, if_false, Bool.false_eq_true]
        refine finI sb (bad ?_)
        refine Bool.eq_false_iff.mpr fun z => ?_
        obtain ⟨vs, rfl, _⟩ := lotB_true z
        obtain ⟨y, _, rfl⟩ := List.mem_map.mp xm
        simp [isS, sD] at c
      have c : isS x = true := by simpa using c
      obtain ⟨w, rfl⟩ := isS_sD c
      try simp -dsimp -implicitDefEqProofs only [↓rds17, ↓rds15, ↓rds14, ↓rds13, ↓rds1, ↓rds2, ↓rds3, ↓rds4, ↓rds5, ↓rds6, ↓rds7, ↓rds8, ↓rds9, ↓rds10, ↓rds11, List.set_cons_zero, List.set_cons_succ, ne_eq, not_false_eq_true, decide_eq_true_eq, Bool.or_true, Bool.or_false, Bool.true_or, Bool.false_or, Bool.and_true, Bool.true_and, Bool.and_false, Bool.false_and, Bool.not_true, Bool.not_false, reduceCtorEq, beq_self_eq_true, true_and, and_true, if_true, if_false, Bool.false_eq_true, sD, g0, inL_sD, flat_sD]
      refine ⟨rfl, ?_⟩
      refine dIte_by (fun c => ?_) fun c => ?_
      · refine dIte_pos rfl ?_
        try simp -dsimp -implicitDefEqProofs only [↓rds17, ↓rds15, ↓rds14, ↓rds13, ↓rds1, ↓rds2, ↓rds3, ↓rds4, ↓rds5, ↓rds6, ↓rds7, ↓rds8, ↓rds9, ↓rds10, ↓rds11, List.set_cons_zero, List.set_cons_succ, ne_eq, not_false_eq_true, decide_eq_true_eq, Bool.or_true, Bool.or_false, Bool.true_or, Bool.false_or, Bool.and_true, Bool.true_and, Bool.and_false, Bool.false_and, Bool.not_true, Bool.not_false, reduceCtorEq, beq_self_eq_true, true_and, and_true, if_true, if_false, Bool.false_eq_true]
        refine finI sb (bad ?_)
        refine Bool.eq_false_iff.mpr fun z => ?_
        obtain ⟨vs, rfl, lv⟩ := lotB_true z
        obtain ⟨y, hy, e⟩ := List.mem_map.mp xm
        cases e
        exact absurd (lv.mem hy) (by simpa using c)
      have ww : w ∈ wsL kind := by simpa using c
      have ei : ixD (sD w) ((wsL kind).map sD) = some (pof kind w) := ixD_sD ww
      try simp -dsimp -implicitDefEqProofs only [↓rds17, ↓rds15, ↓rds14, ↓rds13, ↓rds1, ↓rds2, ↓rds3, ↓rds4, ↓rds5, ↓rds6, ↓rds7, ↓rds8, ↓rds9, ↓rds10, ↓rds11, List.set_cons_zero, List.set_cons_succ, ne_eq, not_false_eq_true, decide_eq_true_eq, Bool.or_true, Bool.or_false, Bool.true_or, Bool.false_or, Bool.and_true, Bool.true_and, Bool.and_false, Bool.false_and, Bool.not_true, Bool.not_false, reduceCtorEq, beq_self_eq_true, true_and, and_true, if_true, if_false, Bool.false_eq_true, g0, flat_sD, ei]
      refine ⟨rfl, ?_⟩
      refine dIte_by (fun c => ?_) fun c => ?_
      · try simp -dsimp -implicitDefEqProofs only [↓rds17, ↓rds15, ↓rds14, ↓rds13, ↓rds1, ↓rds2, ↓rds3, ↓rds4, ↓rds5, ↓rds6, ↓rds7, ↓rds8, ↓rds9, ↓rds10, ↓rds11, List.set_cons_zero, List.set_cons_succ, ne_eq, not_false_eq_true, decide_eq_true_eq, Bool.or_true, Bool.or_false, Bool.true_or, Bool.false_or, Bool.and_true, Bool.true_and, Bool.and_false, Bool.false_and, Bool.not_true, Bool.not_false, reduceCtorEq, beq_self_eq_true, true_and, and_true, if_true, if_false, Bool.false_eq_true]
        refine finI sb (bad ?_)
        refine Bool.eq_false_iff.mpr fun z => ?_
        obtain ⟨vs, rfl, lv⟩ := lotB_true z
        have a2 := ((lot_asc hk).mp lv).2
        have hv : vs[i]? = some w := by
          obtain ⟨y, hy, e⟩ := sD_get hi
          cases e
          exact hy
        have tk : vs.take i = ws := by
          have := ht
          rw [← List.map_take] at this
          exact (List.map_inj_right (fun a b e => by cases e; rfl)).mp this
        have a3 : ((vs.take (i + 1)).map (pofI kind)).Pairwise (· < ·) := by
          rw [List.map_take]
          exact a2.sublist (List.take_sublist _ _)
        rw [List.take_add_one, hv, tk, List.map_append, List.pairwise_append] at a3
        by_cases en : ws = []
        · have := hem en
          omega
        · obtain ⟨y, hy, ey⟩ := hlast en
          have := a3.2.2 _ (List.mem_map_of_mem hy) (pofI kind w) (by simp)
          unfold pofI at *
          omega
      · try simp -dsimp -implicitDefEqProofs only [↓rds17, ↓rds15, ↓rds14, ↓rds13, ↓rds1, ↓rds2, ↓rds3, ↓rds4, ↓rds5, ↓rds6, ↓rds7, ↓rds8, ↓rds9, ↓rds10, ↓rds11, List.set_cons_zero, List.set_cons_succ, ne_eq, not_false_eq_true, decide_eq_true_eq, Bool.or_true, Bool.or_false, Bool.true_or, Bool.false_or, Bool.and_true, Bool.true_and, Bool.and_false, Bool.false_and, Bool.not_true, Bool.not_false, reduceCtorEq, beq_self_eq_true, true_and, and_true, if_true, if_false, Bool.false_eq_true, g0, flat_sD, ei]
        refine ⟨rfl, hN _ _ ⟨rfl, ws ++ [w], _, _, rfl, ?_, ?_, ?_, ?_, ?_, ?_, ?_⟩⟩
        · rw [List.take_add_one, hi, ht, List.map_append]
          rfl
        · intro y hy
          rcases List.mem_append.mp hy with k | k
          · exact hw y k
          · rw [List.mem_singleton.mp k]; exact ww
        · rw [List.map_append, List.pairwise_append]
          refine ⟨ha, by simp, fun a ha' b hb => ?_⟩
          obtain ⟨y, hy, rfl⟩ := List.mem_map.mp ha'
          have := hle y hy
          simp at hb
          subst hb
          unfold pofI at *
          omega
        · intro y hy
          rcases List.mem_append.mp hy with k | k
          · have := hle y k
            unfold pofI at *
            omega
          · rw [List.mem_singleton.mp k]; exact Int.le_refl _
        · omega
        · intro e
          simp at e
        · exact fun _ => ⟨w, List.mem_append_right _ (List.mem_singleton.mpr rfl), rfl⟩
    · rintro σ h' ⟨rfl, ws, last, v, rfl, ht, hw, ha, hle, hm, hem, hlast⟩
      rw [List.take_of_length_le (Nat.le_refl _)] at ht
      subst ht
      have : lotB kind (.t (ws.map sD)) = true := by
        rw [lotB_sD, decide_eq_true (show ordL kind ws = ws from (lot_asc hk).mpr ⟨hw, ha⟩), Bool.and_true]
        exact List.all_eq_true.mpr fun w hw' => decide_eq_true (hw w hw')
      rw [this] at q
      try simp -dsimp -implicitDefEqProofs only [↓rds17, ↓rds15, ↓rds14, ↓rds13, ↓rds1, ↓rds2, ↓rds3, ↓rds4, ↓rds5, ↓rds6, ↓rds7, ↓rds8, ↓rds9, ↓rds10, ↓rds11, List.set_cons_zero, List.set_cons_succ, ne_eq, not_false_eq_true, decide_eq_true_eq, Bool.or_true, Bool.or_false, Bool.true_or, Bool.false_or, Bool.and_true, Bool.true_and, Bool.and_false, Bool.false_and, Bool.not_true, Bool.not_false, reduceCtorEq, beq_self_eq_true, true_and, and_true, if_true, if_false, Bool.false_eq_true]
      exact finI sb q
  · rw [Bool.not_eq_true] at ht
    have : lotB kind d = false := by
      unfold lotB
      split
      · cases ht
      · rfl
    rw [this] at q
    try simp -dsimp -implicitDefEqProofs only [↓rds17, ↓rds15, ↓rds14, ↓rds13, ↓rds1, ↓rds2, ↓rds3, ↓rds4, ↓rds5, ↓rds6, ↓rds7, ↓rds8, ↓rds9, ↓rds10, ↓rds11, List.set_cons_zero, List.set_cons_succ, ne_eq, not_false_eq_true, decide_eq_true_eq, Bool.or_true, Bool.or_false, Bool.true_or, Bool.false_or, Bool.and_true, Bool.true_and, Bool.and_false, Bool.false_and, Bool.not_true, Bool.not_false, reduceCtorEq, beq_self_eq_true, true_and, and_true, if_true, if_false, Bool.false_eq_true, e1, e2, ht]
    exact finR q
end DL
namespace DL
open PySem L2
theorem nodup_len {α : Type} [DecidableEq α] : ∀ {l m : List α}, l.Nodup → (∀ x ∈ l, x ∈ m) → l.length ≤ m.length
  | [], m, _, _ => Nat.zero_le _
  | x :: r, m, n, h => by
    have hx := h x List.mem_cons_self
    rw [List.nodup_cons] at n
    have := nodup_len (m := m.erase x) n.2 fun y hy => (List.mem_erase_of_ne (fun e => n.1 (by rw [← e]; exact hy))).mpr (h y (List.mem_cons_of_mem _ hy))
    rw [List.length_erase_of_mem hx] at this
    have : 0 < m.length := List.length_pos_of_mem hx
    rw [List.length_cons]; omega
section
variable {α : Type} [DecidableEq α]
def nkv (enc : α → D) (val : α → D) (l : List α) : List (D × D) := l.map fun x => (enc x, val x)
variable {enc : α → D} {val : α → D}
def addL (l : List α) (x : α) : List α := if x ∈ l then l else l ++ [x]
theorem mem_addL {l : List α} {x y : α} : y ∈ addL l x ↔ y ∈ l ∨ y = x := by
  unfold addL
  by_cases h : x ∈ l
  · rw [if_pos h]
    exact ⟨.inl, fun q => q.elim id fun e => by rw [e]; exact h⟩
  · rw [if_neg h]; simp
theorem nodup_addL {l : List α} {x : α} (n : l.Nodup) : (addL l x).Nodup := by
  unfold addL
  by_cases h : x ∈ l
  · rw [if_pos h]; exact n
  · rw [if_neg h, List.nodup_append]
    refine ⟨n, by simp, fun a ha b hb e => ?_⟩
    rw [List.mem_singleton] at hb
    rw [e, hb] at ha
    exact h ha
theorem addL_new {l : List α} {x : α} (h : x ∉ l) : addL l x = l ++ [x] := if_neg h
def kkv (enc : α → Key) (val : α → D) (l : List α) : List (Key × D) := l.map fun x => (enc x, val x)
variable {ek : α → Key}
end
end DL
namespace DL
open PySem L2
def spI (c : Nat) : List Int := if c = 98 then [1, 2, 3, 4] else if c = 99 then [10] else if c = 105 then [11, 12, 13, 14] else if c = 101 then [20] else [21, 22, 23, 24]
def spF (w : Str) : Nat × Nat := ((lws.zip [(98, 98), (98, 99), (98, 105), (98, 101), (98, 111), (99, 111), (99, 101), (99, 105), (105, 105), (105, 101), (105, 111), (101, 111), (111, 111)]).lookup w).getD (0, 0)
def lpF (w : Str) : List Pr := (spI (spF w).1).flatMap fun low => ((spI (spF w).2).filter fun high => decide (low < high)).map fun high => (low, high)
theorem flat_len {α β : Type} (f : α → List β) (n : Nat) : ∀ l : List α, (∀ x ∈ l, (f x).length ≤ n) → (l.flatMap f).length ≤ l.length * n
  | [], _ => by simp
  | x :: r, h => by
    rw [List.flatMap_cons, List.length_append, List.length_cons, Nat.succ_mul]
    have := flat_len f n r fun y hy => h y (List.mem_cons_of_mem _ hy)
    have := h x List.mem_cons_self
    omega
def rspI (c : Nat) : List Int := if c = 98 then [10] else if c = 105 then [11, 12, 13, 14] else if c = 101 then [20] else [21, 22, 23, 24]
def rspF (w : Str) : Nat × Nat := ((rws.zip [(98, 105), (98, 101), (98, 111), (105, 98), (105, 105), (105, 105), (105, 101), (105, 111), (101, 98), (101, 105), (101, 111), (111, 98), (111, 105), (111, 101), (111, 111), (111, 111)]).lookup w).getD (0, 0)
def hdC (w : Str) (k : Nat) : Nat := w.cps.toList.getD k 0
def rpP (w : Str) (low high : Int) : Bool := decide (low ≠ high) && decide (cw 10 20 low high = w)
def rpF (w : Str) : List Pr := (rspI (rspF w).1).flatMap fun low => ((rspI (rspF w).2).filter (rpP w low)).map fun high => (low, high)
def four4 : List Int := [0, 1, 2, 3]
theorem cw_four : ∀ a ∈ four4, ∀ b ∈ four4, ∀ c ∈ four4, ∀ d ∈ four4, a ≠ b → c ≠ d → cw a b c d ∈ rws := by decide +kernel
theorem cw_mem {a b c d : Int} (h1 : a ≠ b) (h2 : c ≠ d) : cw a b c d ∈ rws := by
  have m : ∀ x, x ∈ [a, b, c, d] → ((rk [a, b, c, d] x : Nat) : Int) ∈ four4 := fun x hx => by
    have := rk_lt4 hx
    have : rk [a, b, c, d] x < 4 := this
    have : rk [a, b, c, d] x = 0 ∨ rk [a, b, c, d] x = 1 ∨ rk [a, b, c, d] x = 2 ∨ rk [a, b, c, d] x = 3 := by omega
    rcases this with e | e | e | e <;> rw [e] <;> decide
  have lt : ∀ x y, x ∈ [a, b, c, d] → y ∈ [a, b, c, d] → (((rk [a, b, c, d] x : Nat) : Int) < ((rk [a, b, c, d] y : Nat) : Int) ↔ x < y) := fun x y hx hy => by
    have := rk_asc hx hy
    omega
  have ma : a ∈ [a, b, c, d] := by simp
  have mb : b ∈ [a, b, c, d] := by simp
  have mc : c ∈ [a, b, c, d] := by simp
  have md : d ∈ [a, b, c, d] := by simp
  have e1 := cw_mono (f := fun x => ((rk [a, b, c, d] x : Nat) : Int)) lt
  rw [← e1]
  refine cw_four _ (m a ma) _ (m b mb) _ (m c mc) _ (m d md) (fun e => h1 ?_) fun e => h2 ?_
  · have h3 := lt a b ma mb
    have h4 := lt b a mb ma
    omega
  · have h3 := lt c d mc md
    have h4 := lt d c md mc
    omega
def lbW (a b : Str) : List Str := (lpF a).flatMap fun x => (lpF (bkF "line" b)).map fun y => lw x.1 x.2 y.1 y.2
def lbF (a b : Str) : List Str := ordL "line" (lbW a b)
def rbW (a b : Str) : List Str := (rpF (bkF "ring" a)).flatMap fun x => (rpF b).map fun y => cw x.1 x.2 y.1 y.2
def rbF (a b : Str) : List Str := ordL "ring" (rbW a b)
def enB (x : Str × Str) : D := .t [sD x.1, sD x.2]
def tbF (kind a b : Str) : List Str := if kind = "line" ∨ a.length = 1 then lbF a b else if kind = "ring" then rbF a b else
  (lbF (one (hdC a 0)) (one (hdC b 0))).flatMap fun x => (lbF (one (hdC a 1)) (one (hdC b 1))).map fun y => x ++ y
def valBh (kind : Str) (x : Str × Str) : D := .t ((tbF kind x.1 x.2).map sD)
def okB (kind a b : Str) : Prop := (kind = "line" ∧ a ∈ lws ∧ b ∈ lws) ∨ (kind = "ring" ∧ a ∈ rws ∧ b ∈ rws) ∨ (kind = "box" ∧ ((a ∈ lws ∧ b ∈ lws) ∨ (a ∈ bws ∧ b ∈ bws)))
def allW : List Str := lws ++ rws ++ bws
theorem okB_all {kind a b : Str} (h : okB kind a b) : a ∈ allW ∧ b ∈ allW := by
  unfold allW
  simp only [List.mem_append]
  rcases h with ⟨_, h1, h2⟩ | ⟨_, h1, h2⟩ | ⟨_, ⟨h1, h2⟩ | ⟨h1, h2⟩⟩
  · exact ⟨.inl (.inl h1), .inl (.inl h2)⟩
  · exact ⟨.inl (.inr h1), .inl (.inr h2)⟩
  · exact ⟨.inl (.inl h1), .inl (.inl h2)⟩
  · exact ⟨.inr h1, .inr h2⟩
structure BhAt (h : Hd) (p kd : Addr) (kind : Str) (l : List (Str × Str)) : Prop where
  ob : h p = some (.ins "Behind" [("kind", .v (.str kind)), ("known", .v (.ref kd))])
  kn : h kd = some (.dn (nkv enB (valBh kind) l))
  nd : l.Nodup
  ok : ∀ x ∈ l, okB kind x.1 x.2
  kk : kind ∈ kds
theorem BhAt.ne {h : Hd} {p kd : Addr} {kind : Str} {l : List (Str × Str)} (B : BhAt h p kd kind l) : p ≠ kd := fun z => by
  have := B.ob
  rw [z, B.kn] at this
  cases this
theorem allW_len : allW.length = 198 := by decide +kernel
theorem BhAt.len {h : Hd} {p kd : Addr} {kind : Str} {l : List (Str × Str)} (B : BhAt h p kd kind l) : l.length ≤ 39204 := by
  have h1 : l.length ≤ (allW.flatMap fun a => allW.map fun b => (a, b)).length := nodup_len B.nd fun x hx => by
    obtain ⟨h1, h2⟩ := okB_all (B.ok x hx)
    exact List.mem_flatMap.mpr ⟨x.1, h1, List.mem_map.mpr ⟨x.2, h2, rfl⟩⟩
  have h2 := flat_len (fun a => allW.map fun b => (a, b)) 198 allW fun x _ => by rw [List.length_map, allW_len]; exact Nat.le_refl _
  rw [allW_len] at h2
  omega
theorem BhAt.put {h : Hd} {p kd : Addr} {kind : Str} {l : List (Str × Str)} (B : BhAt h p kd kind l) {a b : Str} (o : okB kind a b) :
    BhAt (put h kd (.dn (nkv enB (valBh kind) (addL l (a, b))))) p kd kind (addL l (a, b)) := by
  refine ⟨by rw [put_ne B.ne]; exact B.ob, put_same, nodup_addL B.nd, fun x hx => ?_, B.kk⟩
  rcases mem_addL.mp hx with k | k
  · exact B.ok x k
  · rw [k]; exact o
theorem BhAt.up {h h' : Hd} {p kd : Addr} {kind : Str} {l : List (Str × Str)} (B : BhAt h p kd kind l) (s : Sub h h') : BhAt h' p kd kind l := ⟨s _ _ B.ob, s _ _ B.kn, B.nd, B.ok, B.kk⟩
theorem fk_Behind_kind {y0 y1 : D} : List.lookup ("kind" : Str) [(("kind" : Str), y0), (("known" : Str), y1)] = some y0 := by simp [List.lookup, show (("kind" : Str) == ("known" : Str)) = false from by decide +kernel]
theorem fk_Behind_known {y0 y1 : D} : List.lookup ("known" : Str) [(("kind" : Str), y0), (("known" : Str), y1)] = some y1 := by simp [List.lookup, show (("known" : Str) == ("kind" : Str)) = false from by decide +kernel]
theorem ln_Behind_0 : (([] : List (Str × D)).length < 1000) = True := by simp
theorem ln_Behind_1 {y0 : D} : ([(("kind" : Str), y0)].length < 1000) = True := by simp
theorem ln_Behind_2 {y0 y1 : D} : ([(("kind" : Str), y0), (("known" : Str), y1)].length < 1000) = True := by simp
theorem nm_Behind_told {y0 y1 : D} : List.lookup ("told" : Str) [(("kind" : Str), y0), (("known" : Str), y1)] = none := by simp [List.lookup, show (("told" : Str) == ("kind" : Str)) = false from by decide +kernel, show (("told" : Str) == ("known" : Str)) = false from by decide +kernel]
theorem nm_Behind_made {y0 y1 : D} : List.lookup ("made" : Str) [(("kind" : Str), y0), (("known" : Str), y1)] = none := by simp [List.lookup, show (("made" : Str) == ("kind" : Str)) = false from by decide +kernel, show (("made" : Str) == ("known" : Str)) = false from by decide +kernel]
theorem nm_Behind_lots {y0 y1 : D} : List.lookup ("lots" : Str) [(("kind" : Str), y0), (("known" : Str), y1)] = none := by simp [List.lookup, show (("lots" : Str) == ("kind" : Str)) = false from by decide +kernel, show (("lots" : Str) == ("known" : Str)) = false from by decide +kernel]
def clx_Behind := (And.intro @fk_Behind_kind (And.intro @fk_Behind_known (And.intro @ln_Behind_0 (And.intro @ln_Behind_1 (And.intro @ln_Behind_2 (And.intro @nm_Behind_told (And.intro @nm_Behind_made (And.intro @nm_Behind_lots trivial))))))))
end DL
namespace DL
open PySem L2
section
variable {X : Cx}
variable {h : Hd} {Q : KD} {p : Addr} {xs : List D} {z : Str}
end
end DL
namespace DL
open PySem L2
def lwk (a b c d : Nat) : Nat :=
  bif Nat.blt b c then 0 else bif Nat.beq b c then 1 else bif Nat.blt d a then 12 else bif Nat.beq d a then 11 else
  bif Nat.blt a c then (bif Nat.blt b d then 2 else bif Nat.beq b d then 3 else 4) else
  bif Nat.beq a c then (bif Nat.blt b d then 7 else bif Nat.beq b d then 6 else 5) else
  (bif Nat.blt b d then 8 else bif Nat.beq b d then 9 else 10)
def atL (i : Nat) : Str := lws.getD i ""
theorem blt_d (a b : Nat) : Nat.blt a b = decide ((a : Int) < (b : Int)) := by
  by_cases h : a < b
  · rw [decide_eq_true (by omega)]; exact Nat.blt_eq.mpr h
  · rw [decide_eq_false (by omega), ← Bool.not_eq_true, Nat.blt_eq]; exact h
theorem beq_d (a b : Nat) : Nat.beq a b = decide ((a : Int) = (b : Int)) := by
  by_cases h : a = b
  · rw [decide_eq_true (by omega), h]; exact Nat.beq_refl b
  · rw [decide_eq_false (by omega), ← Bool.not_eq_true, Nat.beq_eq]; exact h
theorem cond_d {α : Type} (p : Prop) [Decidable p] (x y : α) : (bif decide p then x else y) = if p then x else y := by
  by_cases h : p
  · rw [decide_eq_true h, if_pos h]; rfl
  · rw [decide_eq_false h, if_neg h]; rfl
def cylk (a u v : Nat) : Bool := (Nat.ble a u && Nat.ble a v && Nat.blt u v) || (Nat.ble a u && Nat.blt v a) || (Nat.blt u a && Nat.blt v a && Nat.blt u v)
def plk (a b x : Nat) : Nat := bif Nat.beq x a then 0 else bif cylk a x b then 1 else bif Nat.beq x b then 2 else 3
def joink (p q : Nat) (back : Bool) : Nat := bif (Nat.beq p 1 && Nat.beq q 1) && back then 5 else bif (Nat.beq p 3 && Nat.beq q 3) && back then 15 else [16, 0, 1, 2, 3, 4, 6, 7, 8, 9, 17, 10, 11, 12, 13, 14].getD (4 * p + q) 0
def rwk (a b c d : Nat) : Nat := joink (plk a b c) (plk a b d) (cylk a d c)
def atR (i : Nat) : Str := (rws ++ (["bb", "ee"] : List Str)).getD i ""
def atP (i : Nat) : Str := lets.getD i ""
theorem ble_d (a b : Nat) : Nat.ble a b = decide ((a : Int) ≤ (b : Int)) := by
  by_cases h : a ≤ b
  · rw [decide_eq_true (by omega)]; exact Nat.ble_eq.mpr h
  · rw [decide_eq_false (by omega), ← Bool.not_eq_true, Nat.ble_eq]; exact h
theorem cyl_k (a u v : Nat) : cyl a u v = cylk a u v := by
  unfold cyl cylk
  rw [blt_d, blt_d, blt_d, ble_d, ble_d]
  rw [Bool.eq_iff_iff]
  simp only [decide_eq_true_eq, Bool.or_eq_true, Bool.and_eq_true]
  omega
theorem pl_k (a b x : Nat) : pl a b x = atP (plk a b x) ∧ plk a b x < 4 := by
  unfold pl plk
  rw [cyl_k, beq_d, beq_d, cond_d, cond_d]
  cases cylk a x b
  · constructor
    · repeat' split
      all_goals first | rfl | simp_all
    · repeat' split
      all_goals simp
  · constructor
    · repeat' split
      all_goals first | rfl | simp_all
    · repeat' split
      all_goals simp
theorem join_k : ∀ p < 4, ∀ q < 4, ∀ b : Bool, joinW (atP p) (atP q) b = atR (joink p q b) := by decide +kernel
theorem cw_k (a b c d : Nat) : cw a b c d = atR (rwk a b c d) := by
  unfold cw rwk
  rw [(pl_k a b c).1, (pl_k a b d).1, cyl_k]
  exact join_k _ (pl_k a b c).2 _ (pl_k a b d).2 _
def mask (l : List Nat) : Nat := l.foldl (fun m i => m ||| 2 ^ i) 0
abbrev Pn := Nat × Nat
def prN (p : Pn) : Pr := (p.1, p.2)
def allP (ring : Bool) : List Pn := let n := bif ring then 10 else 14
  (List.range n).flatMap fun a => ((List.range n).filter fun b => Nat.blt a b || (ring && !Nat.beq a b)).map fun b => (a, b)
def wk (ring : Bool) (x y : Pn) : Nat := bif ring then rwk x.1 x.2 y.1 y.2 else lwk x.1 x.2 y.1 y.2
def fxd (ring : Bool) : Pn := bif ring then (0, 5) else (4, 9)
def gA (ring : Bool) (i : Nat) : List Pn := (allP ring).filter fun p => Nat.beq (wk ring p (fxd ring)) i
def gB (ring : Bool) (i : Nat) : List Pn := (allP ring).filter fun p => Nat.beq (wk ring (fxd ring) p) i
def prodW (ring : Bool) (A B : List Pn) : List Nat := A.flatMap fun x => B.map fun y => wk ring x y
def chk (ring : Bool) (n : Nat) (ta tb ua ub : List (List Pn)) : Bool := (List.range n).all fun i => (List.range n).all fun j => Nat.beq (mask (prodW ring (ta.getD i []) (tb.getD j []))) (mask (prodW ring (ua.getD i []) (ub.getD j [])))
def atK (ring : Bool) (i : Nat) : Str := bif ring then atR i else atL i
def kn (ring : Bool) : Str := bif ring then "ring" else "line"
def gAw (ring : Bool) (P : List Pn) (w : Str) : List Pn := P.filter fun p => decide (atK ring (wk ring p (fxd ring)) = w)
def gBw (ring : Bool) (P : List Pn) (w : Str) : List Pn := P.filter fun p => decide (atK ring (wk ring (fxd ring) p) = w)
def due (ring : Bool) (a b : Str) : List Str := (gAw ring (allP ring) a).flatMap fun x => (gBw ring (allP ring) b).map fun y => atK ring (wk ring x y)
end DL
namespace DL
open PySem L2
def pnD (p : Pn) : D := prD (prN p)
structure Gd (h : Hd) (A : Addr) (l : List Str) (ad : Str → Addr) (f : Str → List Pn) : Prop where
  dk : h A = some (.dk (kkv Sum.inr (fun w => .v (.ref (ad w))) l))
  ls : ∀ w ∈ l, h (ad w) = some (.lst ((f w).map pnD))
  no : ∀ w, w ∉ l → f w = []
  inj : ∀ w ∈ l, ∀ v ∈ l, ad w = ad v → w = v
structure G2 (h : Hd) (A B : Addr) (l1 : List Str) (ad1 : Str → Addr) (f1 : Str → List Pn) (l2 : List Str) (ad2 : Str → Addr) (f2 : Str → List Pn) : Prop where
  g1 : Gd h A l1 ad1 f1
  g2 : Gd h B l2 ad2 f2
  ne : A ≠ B
  ap : ∀ w ∈ l1, ∀ v ∈ l2, ad1 w ≠ ad2 v
theorem Gd.keep {h h' : Hd} {A : Addr} {l : List Str} {ad : Str → Addr} {f : Str → List Pn} (G : Gd h A l ad f) (k : ∀ a o, h a = some o → (a = A ∨ ∃ v ∈ l, a = ad v) → h' a = some o) : Gd h' A l ad f :=
  ⟨k _ _ G.dk (.inl rfl), fun w hw => k _ _ (G.ls w hw) (.inr ⟨w, hw, rfl⟩), G.no, G.inj⟩
def updF (f : Str → List Pn) (w : Str) (p : Pn) : Str → List Pn := fun v => if v = w then f w ++ [p] else f v
theorem ne_kind {h : Hd} {a b : Addr} {kvs : List (Key × D)} {xs : List D} (e1 : h a = some (.dk kvs)) (e2 : h b = some (.lst xs)) : a ≠ b := fun z => by rw [z, e2] at e1; cases e1
section
variable {h : Hd} {A B : Addr} {l1 : List Str} {ad1 : Str → Addr} {f1 : Str → List Pn} {l2 : List Str} {ad2 : Str → Addr} {f2 : Str → List Pn}
theorem G2.new (G : G2 h A B l1 ad1 f1 l2 ad2 f2) {w : Str} {p : Pn} {r : Addr} (hw : w ∉ l1) (hr : h r = none) :
    G2 (put (put (put h r (.lst [])) A (.dk (kkv Sum.inr (fun v => .v (.ref (if v = w then r else ad1 v))) (addL l1 w)))) r (.lst ([] ++ [pnD p]))) A B (addL l1 w) (fun v => if v = w then r else ad1 v) (updF f1 w p) l2 ad2 f2 := by
  have nA := on G.g1.dk hr
  refine ⟨⟨?_, fun v hv => ?_, fun v hv => ?_, fun v hv u hu e => ?_⟩, ?_, G.ne, fun v hv u hu => ?_⟩
  · rw [put_ne nA, put_same]
  · show put _ r _ (if v = w then r else ad1 v) = _
    unfold updF
    by_cases e : v = w
    · rw [if_pos e, if_pos e, put_same, G.g1.no w hw]; rfl
    · have hv1 : v ∈ l1 := (mem_addL.mp hv).resolve_right e
      rw [if_neg e, if_neg e, put_ne (on (G.g1.ls v hv1) hr), put_ne (ne_kind G.g1.dk (G.g1.ls v hv1)).symm, put_ne (on (G.g1.ls v hv1) hr)]
      exact G.g1.ls v hv1
  · unfold updF
    rw [if_neg fun e => hv (mem_addL.mpr (.inr e))]
    exact G.g1.no v fun q => hv (mem_addL.mpr (.inl q))
  · have e : (if v = w then r else ad1 v) = (if u = w then r else ad1 u) := e
    by_cases e1 : v = w
    · by_cases e2 : u = w
      · rw [e1, e2]
      · rw [if_pos e1, if_neg e2] at e
        exact absurd e.symm (on (G.g1.ls u ((mem_addL.mp hu).resolve_right e2)) hr)
    · by_cases e2 : u = w
      · rw [if_neg e1, if_pos e2] at e
        exact absurd e (on (G.g1.ls v ((mem_addL.mp hv).resolve_right e1)) hr)
      · rw [if_neg e1, if_neg e2] at e
        exact G.g1.inj v ((mem_addL.mp hv).resolve_right e1) u ((mem_addL.mp hu).resolve_right e2) e
  · refine G.g2.keep fun a o e q => ?_
    have n1 : a ≠ r := on e hr
    have n2 : a ≠ A := by
      rcases q with rfl | ⟨v, hv, rfl⟩
      · exact G.ne.symm
      · exact (ne_kind G.g1.dk (G.g2.ls v hv)).symm
    rw [put_ne n1, put_ne n2, put_ne n1]; exact e
  · show (if v = w then r else ad1 v) ≠ _
    by_cases e : v = w
    · rw [if_pos e]; exact fun z => on (G.g2.ls u hu) hr z.symm
    · rw [if_neg e]; exact G.ap v ((mem_addL.mp hv).resolve_right e) u hu
end
structure GI (h0 h : Hd) (A B : Addr) (l1 : List Str) (ad1 : Str → Addr) (f1 : Str → List Pn) (l2 : List Str) (ad2 : Str → Addr) (f2 : Str → List Pn) (n1 n2 : Nat) : Prop where
  G : G2 h A B l1 ad1 f1 l2 ad2 f2
  fA : h0 A = none
  fB : h0 B = none
  r1 : ∀ w ∈ l1, h0 (ad1 w) = none
  r2 : ∀ w ∈ l2, h0 (ad2 w) = none
  m1 : l1.length ≤ n1
  m2 : l2.length ≤ n2
  sb : Sub h0 h
theorem sub_over {h h' : Hd} {a : Addr} {o : O} (s : Sub h h') (n : h a = none) : Sub h (put h' a o) := fun b u e => by
  have z : b ≠ a := fun z => by rw [z, n] at e; cases e
  rw [put_ne z]
  exact s b u e
section
variable {h0 h : Hd} {A B : Addr} {l1 : List Str} {ad1 : Str → Addr} {f1 : Str → List Pn} {l2 : List Str} {ad2 : Str → Addr} {f2 : Str → List Pn} {n1 n2 : Nat}
theorem GI.new (G : GI h0 h A B l1 ad1 f1 l2 ad2 f2 n1 n2) {w : Str} {p : Pn} {r : Addr} (hw : w ∉ l1) (hr : h r = none) :
    GI h0 (put (put (put h r (.lst [])) A (.dk (kkv Sum.inr (fun v => .v (.ref (if v = w then r else ad1 v))) (addL l1 w)))) r (.lst ([] ++ [pnD p]))) A B (addL l1 w) (fun v => if v = w then r else ad1 v) (updF f1 w p) l2 ad2 f2 (n1 + 1) n2 :=
  ⟨G.G.new hw hr, G.fA, G.fB, fun v hv => by
    show h0 (if v = w then r else ad1 v) = none
    by_cases e : v = w
    · rw [if_pos e]; exact G.sb.none hr
    · rw [if_neg e]; exact G.r1 v ((mem_addL.mp hv).resolve_right e), G.r2, by
    rw [addL_new hw, List.length_append, List.length_singleton]
    have := G.m1
    omega, G.m2, sub_over (sub_over (sub_over G.sb (G.sb.none hr)) G.fA) (G.sb.none hr)⟩
end
def GrX (h0 h : Hd) (A B : Addr) (ring : Bool) (P : List Pn) : Prop := ∃ l1 ad1 l2 ad2, G2 h A B l1 ad1 (gAw ring P) l2 ad2 (gBw ring P) ∧ h0 A = none ∧ h0 B = none ∧ (∀ w ∈ l1, h0 (ad1 w) = none) ∧ ∀ w ∈ l2, h0 (ad2 w) = none
def GrOk (h : Hd) (A B : Addr) (ring : Bool) (P : List Pn) : Prop := ∃ l1 ad1 l2 ad2, G2 h A B l1 ad1 (gAw ring P) l2 ad2 (gBw ring P)
theorem Gd.up {h h' : Hd} {A : Addr} {l : List Str} {ad : Str → Addr} {f : Str → List Pn} (G : Gd h A l ad f) (s : Sub h h') : Gd h' A l ad f := G.keep fun a o e _ => s a o e
theorem GrOk.up {h h' : Hd} {A B : Addr} {ring : Bool} {P : List Pn} (G : GrOk h A B ring P) (s : Sub h h') : GrOk h' A B ring P := by
  obtain ⟨l1, ad1, l2, ad2, G⟩ := G
  exact ⟨l1, ad1, l2, ad2, G.g1.up s, G.g2.up s, G.ne, G.ap⟩
theorem GrX.ok {h0 h : Hd} {A B : Addr} {ring : Bool} {P : List Pn} (G : GrX h0 h A B ring P) : GrOk h A B ring P := by
  obtain ⟨l1, ad1, l2, ad2, G, _⟩ := G
  exact ⟨l1, ad1, l2, ad2, G⟩
theorem GrX.put {h0 h : Hd} {A B p : Addr} {u o : O} {ring : Bool} {P : List Pn} (G : GrX h0 h A B ring P) (e : h0 p = some u) : GrX h0 (put h p o) A B ring P := by
  obtain ⟨l1, ad1, l2, ad2, G, a1, a2, a3, a4⟩ := G
  have n : ∀ a, h0 a = none → a ≠ p := fun a ea z => by rw [z, e] at ea; cases ea
  refine ⟨l1, ad1, l2, ad2, ⟨G.g1.keep fun a o' ea q => ?_, G.g2.keep fun a o' ea q => ?_, G.ne, G.ap⟩, a1, a2, a3, a4⟩
  · rw [put_ne (n a (by rcases q with rfl | ⟨v, hv, rfl⟩; exact a1; exact a3 v hv))]; exact ea
  · rw [put_ne (n a (by rcases q with rfl | ⟨v, hv, rfl⟩; exact a2; exact a4 v hv))]; exact ea
theorem GrX.up {h0 h h' : Hd} {A B : Addr} {ring : Bool} {P : List Pn} (G : GrX h0 h A B ring P) (s : Sub h h') : GrX h0 h' A B ring P := by
  obtain ⟨l1, ad1, l2, ad2, G, a1, a2, a3, a4⟩ := G
  exact ⟨l1, ad1, l2, ad2, ⟨G.g1.up s, G.g2.up s, G.ne, G.ap⟩, a1, a2, a3, a4⟩
end DL
namespace DL
open PySem L2
end DL
namespace DL
open PySem L2
end DL
namespace DL
open PySem L2
theorem draw_i {h : Hd} {p q : Addr} {cells : List Int} {many : Int} {Q : KD} {E : XD → Hd → Prop} {b : BxK Q E} (P : PoolAt h p q cells) (h1 : 0 < many) (h2 : many.natAbs.log2 < 9000) (k : ∀ (k : Int) (h' : Hd), PoolAt h' p q cells → SubX p h h' → 0 ≤ k → k < many → Q (.v (.int k)) h') :
    cl sp_law_draw [.v (.ref p), .v (.int many)] h Q E b := cl_i ⟨rfl, p, q, cells, many, rfl, P, h1, h2, fun j s j0 j1 => k j _ (pool_put P s) ((SubX.refl p h).set) j0 j1⟩
theorem PoolAt.up {h h' : Hd} {p q : Addr} {cells : List Int} (P : PoolAt h p q cells) (s : Sub h h') : PoolAt h' p q cells := ⟨by obtain ⟨st, g⟩ := P.st; exact ⟨st, s _ _ g⟩, s _ _ P.cl, P.ne, P.ln⟩
end DL
namespace DL
open PySem L2
def tabWL : List (List Nat) := [[1, 1, 3, 13, 75, 541, 4683, 47293, 545835, 7087261, 102247563, 1622632573, 28091567595, 526858348381, 10641342970443, 230283190977853, 5315654681981355, 130370767029135901, 3385534663256845323, 92801587319328411133, 2677687796244384203115, 81124824998504073881821, 2574844419803190384544203],
  [1, 5, 31, 233, 2071, 21305, 249271, 3270713, 47580151, 760192505, 13234467511, 249383390393, 5057242311031, 109820924003705, 2542685745501751, 62527556173577273, 1627581948113854711, 44708026328035782905, 1292443104462527895991, 39223568601129844839353, 1246859797402343155331191, 41431803458471259455018105],
  [13, 101, 919, 9617, 113983, 1510721, 22154719, 356306177, 6237137503, 118074461441, 2403929460319, 52381840846337, 1216432410749023, 29992435214037761, 782527195970138719, 21540222189960964097, 623867539067246056543, 18965562748333658471681, 603818114400606655245919, 20092471830534458149843457, 697494265705114311111508063],
  [409, 4349, 52183, 698369, 10321999, 167075729, 2940415663, 55918661969, 1142927499439, 24988955693009, 582025284951343, 14388001401644369, 376267380378050479, 10378847496995412689, 301163658438642546223, 9170847604633206207569, 292426275826136498387119, 9744326858066925747298769, 338700896937289926480832303, 12259533573105471668141343569],
  [23917, 323093, 4811815, 78376865, 1386669967, 26489123153, 543504418735, 11923014096785, 278518164629167, 6902988058346513, 180939689488203055, 5001290058308681105, 145392405470823566767, 4434841973097281830673, 141627714110751646089775, 4725950291120394624455825, 164478285039611500366766767, 5960416338084090870830255633, 224552924615986442648306478895],
  [2244361, 36782525, 654146551, 12551226593, 258507647791, 5689754839025, 133297575266191, 3312234946858673, 87018350714928271, 2410175184410239025, 70195557706257442831, 2144724783813229131953, 68596436068827182129551, 2292161288504821489183025, 79876167374245552871155471, 2897969026522239685231744433, 109296254138951175888738111631, 4278889081249595656741593919025],
  [308682013, 5948540021, 122978210599, 2715623595617, 63803910213583, 1589468685796241, 41853057884034799, 1161578416847655377, 33892691260923601903, 1037264613053485844561, 33225855642506976498799, 1111782426217997153526737, 38792003042870365690986223, 1409046429573997066180294481, 53199142556214468101753183599, 2084796413555322240426427903697, 84689356010284090896945643714543],
  [58514835289, 1296322692509, 30544143308983, 762832387791329, 20131794599119279, 559862679481810289, 16365556422037973263, 501685960896281121329, 16094295514726745327119, 539278285287745088513969, 18840110308326184268729743, 685127213265563350244654129, 25895048063320235517786444559, 1015798635499553886162337360049, 41302279798364384328259607905423, 1738538272097600429763892517351729],
  [14623910308237, 366144122241173, 9684481105663975, 269865442441345505, 7902846871278081487, 242660202237121574033, 7796304776915232102895, 261591994886509171593425, 9150416011519219590107887, 333143551478618582987962193, 12604960425027336083770895215, 494951793718116825322275457745, 20143240581432415221048635272687, 848617996149618022717816454723153, 36967255616595535791268793405645935],
  [4659168491711401, 130090480667840765, 3816490714418367991, 117378677682921746273, 3776822287339055264431, 126897845054796969745265, 4444412008316355209257231, 161996567733549681698927153, 6135908436774358750391466511, 241173416646544744619252281265, 9824144393857149197863179907471, 414237377784092803748383909725233, 18059318810222958884275488475461391, 813186116755528392619729802391769265],
  [1843200116875263613, 56781093484251689141, 1829721804828066759079, 61560511383728957240417, 2158757081630779119755983, 78776077862616663244834961, 2986955934520404534346269679, 117518754104885192934430407377, 4791485488605302226621963813103, 202206616695117827275260364908881, 8822540716219433040263552282868079, 397563398972652716867727156958153937, 18484278260824514678220354826200714223],
  [886470355671907534969, 29865394789450445240669, 1048598285123525081257783, 38308660390492942062539489, 1454089928328893935550717359, 57265899085182394200042068849, 2336983367250208516843766702863, 98707565603256262524319200547889, 4310167049762157606494145958979599, 194370429128216641913731802337642929, 9043357430925930980676313834621280143, 433699223405997938938460458682166423089],
  [509366445167037318008557, 18630031052684708490640853, 707890633969200496744088935, 27905904578426750132245675745, 1139858734082513061321862317007, 48185291118003027003737716922513, 2105729742079450671984913379215855, 95030131039227242153618828189331665, 4424493500898857169381291016141818607, 212327932987536003978892072423772571473, 10493312344264458659047800920631337272175],
  [344630301458257894126724041, 13599006972228774817750793405, 555976414752043155594808320631, 23522716191960256971207927302753, 1028772225480723822490587831146671, 46462200648573895740816957405057905, 2164731684929814963613836093976243471, 103951719743318573404755390703815376433, 5140492205638461327534454424103782350351, 261556800411865813192466965763518178601905],
  [271188703889907190388528763613, 11483369888604106907806559491061, 502624754644381782759689951921959, 22716714211546585959163184786955617, 1059134742140620533936509568285592783, 50893494029194379220570777304919566481, 2518270242947571377064849516699983486959, 128208154103113675932466255669707198125777, 6710662790828864672083281529820771779134703],
  [245570692377888837925941696215449, 11107044728451102088201747417516829, 518209013964536973988673191749318583, 24917179643526879343317133868316986849, 1233688374459188498922139369697531960239, 62844941930083052277700703076503607319409, 3291227318362875498075407637075532290504463, 177072020744640551741538183541767830636185649],
  [253550984618042935950235722165900877, 12199485314781171184664230338283834133, 604385597407830809789411117914607486695, 30805626777811931889389281853403037679585, 1614191188216396222898853466999514341592527, 86890396713138838121731387952346149172840593, 4801526987324086549725297859391372334067717615],
  [296093056046524819302373443788161826281, 15100620590202050539799935367744215096445, 791692780719292145504732092573055651956471, 42638102762461220949416267242673317415624033, 2357318295305473855801783235719513092447438511, 133700294090658073450628186492761725702333272945],
  [388296080064545047482466078602655718430013, 20923204990870964401955767575050130881833781, 1157340096271506317426183484238419887515907239, 65671487897676299797413201628521106304942917217, 3820365219440993284733590399838093149769783051983],
  [568208445640317676512113858331684878317036729, 32257073900702396739993509072141343208713504989, 1877346865771658492468088599104786021732420067383, 111946066878584499157734292654308547237186495453409],
  [922544895935478047864047545016322339261853281197, 55034360006406420332633102027601880607727037693013, 3361791917041870708773439628997414570634921893937255],
  [1653378778517732144220403263484906345013597428122121, 103402495554306384464119049849577297254298274929485885],
  [3255683351129035514811898533860313636838589605583590813]]
def tabW (f o : Nat) : Nat := (tabWL.getD f []).getD o 0
def enP (x : Nat × Nat) : D := .t [.v (.int (x.1 : Int)), .v (.int (x.2 : Int))]
def valM (x : Nat × Nat) : D := .v (.int (tabW x.1 x.2 : Int))
structure MvAt (h : Hd) (p kd : Addr) (l : List (Nat × Nat)) : Prop where
  ob : h p = some (.ins "Moves" [("known", .v (.ref kd))])
  kn : h kd = some (.dn (nkv enP valM l))
  nd : l.Nodup
  ok : ∀ x ∈ l, x.1 + x.2 ≤ 22
  z : (0, 0) ∈ l
theorem MvAt.ne {h : Hd} {p kd : Addr} {l : List (Nat × Nat)} (B : MvAt h p kd l) : p ≠ kd := fun z => by
  have := B.ob
  rw [z, B.kn] at this
  cases this
theorem MvAt.len {h : Hd} {p kd : Addr} {l : List (Nat × Nat)} (B : MvAt h p kd l) : l.length ≤ 529 := by
  have h1 : l.length ≤ ((List.range 23).flatMap fun a => (List.range 23).map fun b => (a, b)).length := nodup_len B.nd fun x hx => by
    have := B.ok x hx
    exact List.mem_flatMap.mpr ⟨x.1, List.mem_range.mpr (by omega), List.mem_map.mpr ⟨x.2, List.mem_range.mpr (by omega), rfl⟩⟩
  exact Nat.le_trans h1 (by decide +kernel)
theorem MvAt.put {h : Hd} {p kd : Addr} {l : List (Nat × Nat)} (B : MvAt h p kd l) {a b : Nat} (o : a + b ≤ 22) :
    MvAt (put h kd (.dn (nkv enP valM (addL l (a, b))))) p kd (addL l (a, b)) := by
  refine ⟨by rw [put_ne B.ne]; exact B.ob, put_same, nodup_addL B.nd, fun x hx => ?_, mem_addL.mpr (.inl B.z)⟩
  rcases mem_addL.mp hx with k | k
  · exact B.ok x k
  · rw [k]; exact o
theorem MvAt.up {h h' : Hd} {p kd : Addr} {l : List (Nat × Nat)} (B : MvAt h p kd l) (s : Sub h h') : MvAt h' p kd l := ⟨s _ _ B.ob, s _ _ B.kn, B.nd, B.ok, B.z⟩
theorem fk_Moves_known {y0 : D} : List.lookup ("known" : Str) [(("known" : Str), y0)] = some y0 := by simp [List.lookup]
theorem ln_Moves_0 : (([] : List (Str × D)).length < 1000) = True := by simp
theorem ln_Moves_1 {y0 : D} : ([(("known" : Str), y0)].length < 1000) = True := by simp
theorem nm_Moves_ways {y0 : D} : List.lookup ("ways" : Str) [(("known" : Str), y0)] = none := by simp [List.lookup, show (("ways" : Str) == ("known" : Str)) = false from by decide +kernel]
def clx_Moves := (And.intro @fk_Moves_known (And.intro @ln_Moves_0 (And.intro @ln_Moves_1 (And.intro @nm_Moves_ways trivial))))
theorem ln_range {n : Nat} {j : Int} (e : j = (n : Int)) : (rangeD 0 j.toNat).length = n := by unfold rangeD; rw [List.length_map, List.length_range, e, Int.toNat_natCast]
end DL
namespace DL
open PySem L2
def rowTL : List (List Nat) := [[1],
  [1, 1],
  [1, 2, 1],
  [1, 3, 3, 1],
  [1, 4, 6, 4, 1],
  [1, 5, 10, 10, 5, 1],
  [1, 6, 15, 20, 15, 6, 1],
  [1, 7, 21, 35, 35, 21, 7, 1],
  [1, 8, 28, 56, 70, 56, 28, 8, 1],
  [1, 9, 36, 84, 126, 126, 84, 36, 9, 1],
  [1, 10, 45, 120, 210, 252, 210, 120, 45, 10, 1],
  [1, 11, 55, 165, 330, 462, 462, 330, 165, 55, 11, 1],
  [1, 12, 66, 220, 495, 792, 924, 792, 495, 220, 66, 12, 1],
  [1, 13, 78, 286, 715, 1287, 1716, 1716, 1287, 715, 286, 78, 13, 1],
  [1, 14, 91, 364, 1001, 2002, 3003, 3432, 3003, 2002, 1001, 364, 91, 14, 1],
  [1, 15, 105, 455, 1365, 3003, 5005, 6435, 6435, 5005, 3003, 1365, 455, 105, 15, 1],
  [1, 16, 120, 560, 1820, 4368, 8008, 11440, 12870, 11440, 8008, 4368, 1820, 560, 120, 16, 1],
  [1, 17, 136, 680, 2380, 6188, 12376, 19448, 24310, 24310, 19448, 12376, 6188, 2380, 680, 136, 17, 1],
  [1, 18, 153, 816, 3060, 8568, 18564, 31824, 43758, 48620, 43758, 31824, 18564, 8568, 3060, 816, 153, 18, 1],
  [1, 19, 171, 969, 3876, 11628, 27132, 50388, 75582, 92378, 92378, 75582, 50388, 27132, 11628, 3876, 969, 171, 19, 1],
  [1, 20, 190, 1140, 4845, 15504, 38760, 77520, 125970, 167960, 184756, 167960, 125970, 77520, 38760, 15504, 4845, 1140, 190, 20, 1],
  [1, 21, 210, 1330, 5985, 20349, 54264, 116280, 203490, 293930, 352716, 352716, 293930, 203490, 116280, 54264, 20349, 5985, 1330, 210, 21, 1],
  [1, 22, 231, 1540, 7315, 26334, 74613, 170544, 319770, 497420, 646646, 705432, 646646, 497420, 319770, 170544, 74613, 26334, 7315, 1540, 231, 22, 1],
  [1, 23, 253, 1771, 8855, 33649, 100947, 245157, 490314, 817190, 1144066, 1352078, 1352078, 1144066, 817190, 490314, 245157, 100947, 33649, 8855, 1771, 253, 23, 1],
  [1, 24, 276, 2024, 10626, 42504, 134596, 346104, 735471, 1307504, 1961256, 2496144, 2704156, 2496144, 1961256, 1307504, 735471, 346104, 134596, 42504, 10626, 2024, 276, 24, 1],
  [1, 25, 300, 2300, 12650, 53130, 177100, 480700, 1081575, 2042975, 3268760, 4457400, 5200300, 5200300, 4457400, 3268760, 2042975, 1081575, 480700, 177100, 53130, 12650, 2300, 300, 25, 1],
  [1, 26, 325, 2600, 14950, 65780, 230230, 657800, 1562275, 3124550, 5311735, 7726160, 9657700, 10400600, 9657700, 7726160, 5311735, 3124550, 1562275, 657800, 230230, 65780, 14950, 2600, 325, 26, 1],
  [1, 27, 351, 2925, 17550, 80730, 296010, 888030, 2220075, 4686825, 8436285, 13037895, 17383860, 20058300, 20058300, 17383860, 13037895, 8436285, 4686825, 2220075, 888030, 296010, 80730, 17550, 2925, 351, 27, 1],
  [1, 28, 378, 3276, 20475, 98280, 376740, 1184040, 3108105, 6906900, 13123110, 21474180, 30421755, 37442160, 40116600, 37442160, 30421755, 21474180, 13123110, 6906900, 3108105, 1184040, 376740, 98280, 20475, 3276, 378, 28, 1],
  [1, 29, 406, 3654, 23751, 118755, 475020, 1560780, 4292145, 10015005, 20030010, 34597290, 51895935, 67863915, 77558760, 77558760, 67863915, 51895935, 34597290, 20030010, 10015005, 4292145, 1560780, 475020, 118755, 23751, 3654, 406, 29, 1],
  [1, 30, 435, 4060, 27405, 142506, 593775, 2035800, 5852925, 14307150, 30045015, 54627300, 86493225, 119759850, 145422675, 155117520, 145422675, 119759850, 86493225, 54627300, 30045015, 14307150, 5852925, 2035800, 593775, 142506, 27405, 4060, 435, 30, 1],
  [1, 31, 465, 4495, 31465, 169911, 736281, 2629575, 7888725, 20160075, 44352165, 84672315, 141120525, 206253075, 265182525, 300540195, 300540195, 265182525, 206253075, 141120525, 84672315, 44352165, 20160075, 7888725, 2629575, 736281, 169911, 31465, 4495, 465, 31, 1],
  [1, 32, 496, 4960, 35960, 201376, 906192, 3365856, 10518300, 28048800, 64512240, 129024480, 225792840, 347373600, 471435600, 565722720, 601080390, 565722720, 471435600, 347373600, 225792840, 129024480, 64512240, 28048800, 10518300, 3365856, 906192, 201376, 35960, 4960, 496, 32, 1],
  [1, 33, 528, 5456, 40920, 237336, 1107568, 4272048, 13884156, 38567100, 92561040, 193536720, 354817320, 573166440, 818809200, 1037158320, 1166803110, 1166803110, 1037158320, 818809200, 573166440, 354817320, 193536720, 92561040, 38567100, 13884156, 4272048, 1107568, 237336, 40920, 5456, 528, 33, 1],
  [1, 34, 561, 5984, 46376, 278256, 1344904, 5379616, 18156204, 52451256, 131128140, 286097760, 548354040, 927983760, 1391975640, 1855967520, 2203961430, 2333606220, 2203961430, 1855967520, 1391975640, 927983760, 548354040, 286097760, 131128140, 52451256, 18156204, 5379616, 1344904, 278256, 46376, 5984, 561, 34, 1],
  [1, 35, 595, 6545, 52360, 324632, 1623160, 6724520, 23535820, 70607460, 183579396, 417225900, 834451800, 1476337800, 2319959400, 3247943160, 4059928950, 4537567650, 4537567650, 4059928950, 3247943160, 2319959400, 1476337800, 834451800, 417225900, 183579396, 70607460, 23535820, 6724520, 1623160, 324632, 52360, 6545, 595, 35, 1],
  [1, 36, 630, 7140, 58905, 376992, 1947792, 8347680, 30260340, 94143280, 254186856, 600805296, 1251677700, 2310789600, 3796297200, 5567902560, 7307872110, 8597496600, 9075135300, 8597496600, 7307872110, 5567902560, 3796297200, 2310789600, 1251677700, 600805296, 254186856, 94143280, 30260340, 8347680, 1947792, 376992, 58905, 7140, 630, 36, 1],
  [1, 37, 666, 7770, 66045, 435897, 2324784, 10295472, 38608020, 124403620, 348330136, 854992152, 1852482996, 3562467300, 6107086800, 9364199760, 12875774670, 15905368710, 17672631900, 17672631900, 15905368710, 12875774670, 9364199760, 6107086800, 3562467300, 1852482996, 854992152, 348330136, 124403620, 38608020, 10295472, 2324784, 435897, 66045, 7770, 666, 37, 1],
  [1, 38, 703, 8436, 73815, 501942, 2760681, 12620256, 48903492, 163011640, 472733756, 1203322288, 2707475148, 5414950296, 9669554100, 15471286560, 22239974430, 28781143380, 33578000610, 35345263800, 33578000610, 28781143380, 22239974430, 15471286560, 9669554100, 5414950296, 2707475148, 1203322288, 472733756, 163011640, 48903492, 12620256, 2760681, 501942, 73815, 8436, 703, 38, 1],
  [1, 39, 741, 9139, 82251, 575757, 3262623, 15380937, 61523748, 211915132, 635745396, 1676056044, 3910797436, 8122425444, 15084504396, 25140840660, 37711260990, 51021117810, 62359143990, 68923264410, 68923264410, 62359143990, 51021117810, 37711260990, 25140840660, 15084504396, 8122425444, 3910797436, 1676056044, 635745396, 211915132, 61523748, 15380937, 3262623, 575757, 82251, 9139, 741, 39, 1],
  [1, 40, 780, 9880, 91390, 658008, 3838380, 18643560, 76904685, 273438880, 847660528, 2311801440, 5586853480, 12033222880, 23206929840, 40225345056, 62852101650, 88732378800, 113380261800, 131282408400, 137846528820, 131282408400, 113380261800, 88732378800, 62852101650, 40225345056, 23206929840, 12033222880, 5586853480, 2311801440, 847660528, 273438880, 76904685, 18643560, 3838380, 658008, 91390, 9880, 780, 40, 1],
  [1, 41, 820, 10660, 101270, 749398, 4496388, 22481940, 95548245, 350343565, 1121099408, 3159461968, 7898654920, 17620076360, 35240152720, 63432274896, 103077446706, 151584480450, 202112640600, 244662670200, 269128937220, 269128937220, 244662670200, 202112640600, 151584480450, 103077446706, 63432274896, 35240152720, 17620076360, 7898654920, 3159461968, 1121099408, 350343565, 95548245, 22481940, 4496388, 749398, 101270, 10660, 820, 41, 1],
  [1, 42, 861, 11480, 111930, 850668, 5245786, 26978328, 118030185, 445891810, 1471442973, 4280561376, 11058116888, 25518731280, 52860229080, 98672427616, 166509721602, 254661927156, 353697121050, 446775310800, 513791607420, 538257874440, 513791607420, 446775310800, 353697121050, 254661927156, 166509721602, 98672427616, 52860229080, 25518731280, 11058116888, 4280561376, 1471442973, 445891810, 118030185, 26978328, 5245786, 850668, 111930, 11480, 861, 42, 1],
  [1, 43, 903, 12341, 123410, 962598, 6096454, 32224114, 145008513, 563921995, 1917334783, 5752004349, 15338678264, 36576848168, 78378960360, 151532656696, 265182149218, 421171648758, 608359048206, 800472431850, 960566918220, 1052049481860, 1052049481860, 960566918220, 800472431850, 608359048206, 421171648758, 265182149218, 151532656696, 78378960360, 36576848168, 15338678264, 5752004349, 1917334783, 563921995, 145008513, 32224114, 6096454, 962598, 123410, 12341, 903, 43, 1],
  [1, 44, 946, 13244, 135751, 1086008, 7059052, 38320568, 177232627, 708930508, 2481256778, 7669339132, 21090682613, 51915526432, 114955808528, 229911617056, 416714805914, 686353797976, 1029530696964, 1408831480056, 1761039350070, 2012616400080, 2104098963720, 2012616400080, 1761039350070, 1408831480056, 1029530696964, 686353797976, 416714805914, 229911617056, 114955808528, 51915526432, 21090682613, 7669339132, 2481256778, 708930508, 177232627, 38320568, 7059052, 1086008, 135751, 13244, 946, 44, 1]]
def rowT (n : Nat) : List Nat := rowTL.getD n []
def natI (l : List Nat) : List Int := l.map fun x : Nat => Int.ofNat x
def prowD (t : Nat) : List D := intsD (natI (rowT t))
def erL : List (Str × List (Str × Bool)) := []
def erOwn : List Str := []
def erFt : List (Str × Str) := []
def ers := True.intro
end DL
namespace DL
open PySem L2
theorem sub_at {h h' : Hd} {R : Addr} {o : O} (s : Sub h h') (n : h R = none) : Sub h (put h' R o) := fun c u e => by
  have : c ≠ R := fun z => by rw [z, n] at e; cases e
  rw [put_ne this]; exact s c u e
def RowsAt (h : Hd) (R : Addr) (t : Nat) : Prop := ∃ rs : List Addr, h R = some (.lst (rs.map fun a => .v (.ref a))) ∧ rs.length = t + 1 ∧ ∀ i, i ≤ t → ∃ a, rs[i]? = some a ∧ a ≠ R ∧ h a = some (.lst (prowD i))
theorem RowsAt.at {h : Hd} {R : Addr} {t i : Nat} {j : Int} {xs : List D} (r : RowsAt h R t) (g : h R = some (.lst xs)) (hi : i ≤ t) (e : j = (i : Int)) : ∃ a, atI xs j = some (.v (.ref a)) ∧ h a = some (.lst (prowD i)) := by
  obtain ⟨rs, e1, e2, e3⟩ := r
  obtain ⟨a, e4, e5, e6⟩ := e3 i hi
  rw [e1] at g
  cases g
  subst e
  exact ⟨a, atI_nat (by rw [List.getElem?_map, e4]; rfl), e6⟩
theorem RowsAt.up {h h' : Hd} {R : Addr} {t : Nat} (r : RowsAt h R t) (s : Sub h h') : RowsAt h' R t := by
  obtain ⟨rs, e1, e2, e3⟩ := r
  refine ⟨rs, s _ _ e1, e2, fun i hi => ?_⟩
  obtain ⟨a, e4, e5, e6⟩ := e3 i hi
  exact ⟨a, e4, e5, s _ _ e6⟩
theorem RowsAt.ux {h h' : Hd} {R p : Addr} {t : Nat} (r : RowsAt h R t) (n : h p = none) (s : SubX p h h') : RowsAt h' R t := by
  have g : ∀ a o, h a = some o → h' a = some o := fun a o e => s a o (fun z => by rw [z, n] at e; cases e) e
  exact r.up g
theorem RowsAt.last {h : Hd} {R : Addr} {t : Nat} {xs : List D} (r : RowsAt h R t) (g : h R = some (.lst xs)) : ∃ a, a ≠ R ∧ atI xs (-1) = some (.v (.ref a)) ∧ h a = some (.lst (prowD t)) ∧ xs.length = t + 1 := by
  obtain ⟨rs, e1, e2, e3⟩ := r
  obtain ⟨a, e4, e5, e6⟩ := e3 t (Nat.le_refl _)
  rw [e1] at g
  cases g
  refine ⟨a, e5, ?_, e6, by rw [List.length_map, e2]⟩
  have ne : rs ≠ [] := fun z => by rw [z] at e2; cases e2
  have el : rs.getLast ne = a := by
    rw [List.getLast_eq_getElem]
    have := List.getElem?_eq_some_iff.mp e4
    obtain ⟨h1, h2⟩ := this
    rw [← h2]
    congr 1
    omega
  rw [← List.dropLast_concat_getLast ne, el, List.map_append]
  exact at_m1
theorem RowsAt.put {h : Hd} {R a : Addr} {t : Nat} {xs : List D} (r : RowsAt h R t) (g : h R = some (.lst xs)) (na : a ≠ R) (ha : h a = some (.lst (prowD (t + 1)))) : RowsAt (put h R (.lst (xs ++ [.v (.ref a)]))) R (t + 1) := by
  obtain ⟨rs, e1, e2, e3⟩ := r
  rw [e1] at g
  cases g
  refine ⟨rs ++ [a], by rw [put_same, List.map_append]; rfl, by rw [List.length_append, e2]; rfl, fun i hi => ?_⟩
  by_cases c : i ≤ t
  · obtain ⟨b, e4, e5, e6⟩ := e3 i c
    exact ⟨b, by rw [List.getElem?_append_left (by omega)]; exact e4, e5, by rw [put_ne e5]; exact e6⟩
  · have ei : i = t + 1 := by omega
    subst ei
    exact ⟨a, by rw [List.getElem?_append_right (by omega), e2]; simp, na, by rw [put_ne na]; exact ha⟩
end DL
namespace DL
open PySem L2
open PySem.W (alike alikeAll AllAlike Sortable dataLe EachIs)
mutual
def pyOf : D → PyData
  | .v (.int i) => .int i
  | .v (.str z) => .str z
  | .v (.bl b) => .bool b
  | .t ds => .tuple (pyOfs ds)
  | .v .non => .none
  | _ => .none
def pyOfs : List D → List PyData
  | [] => []
  | d :: ds => pyOf d :: pyOfs ds
end
section
variable {X : Cx} {pins : List (Addr × Obj)} {σ : St} {H : Hp} {s : Shared}
end
section
variable {h : Hd} {Q : KD} {p : Addr} {xs : List D} {kvs : List (D × D)}
end
end DL
namespace DL
open PySem L2
section
variable {X : Cx}
end
section
variable {x : D} {h : Hd} {Q : KD} {p : Addr} {xs : List D} {neg : Bool}
end
end DL
namespace DL
open PySem L2
section
variable {X : Cx}
section
variable {B : Bs}
variable {o e : Expr} {es : List Expr} {to : ED} {t : AD} {name : Str} {apos cpos : Pos} {id : String} {r : MD}
end
end
end DL
namespace DL
open PySem L2
def ltN : List Pr → Int → Nat
  | [], _ => 0
  | p :: r, j => ((if p.1 = j then 1 else 0) + if p.2 = j then 1 else 0) + 2 * ltN r j
def ovN : List Pr → Nat
  | [] => 0
  | p :: r => (if p.2 < p.1 then 1 else 0) + 2 * ovN r
def mN (ps : List Pr) : Nat := (1 + maxI (ps.map fun p => maxI [p.1, p.2])).toNat
def lettersN (ps : List Pr) : List Nat := (List.range (mN ps)).map fun j : Nat => ltN ps (j : Int)
def wordN (kind : Str) : Fg → List Nat
  | .one ps => if kind = "line" then lettersN ps else ovN ps :: lettersN ps
  | .two ps qs => lettersN ps ++ [0] ++ lettersN qs
def spN (l : List Nat) (i : Nat) : List Nat := (List.range l.length).filter fun j => (l.getD j 0).testBit i
def badN (c : Nat) (l : List Nat) : Bool := decide (0 ∈ l) || (List.range c).any fun i => decide ((spN l i).length ≠ 2)
def prW (sw : Bool) (l : List Nat) : Pr := if sw = true then ((l.getD 1 0 : Nat), (l.getD 0 0 : Nat)) else ((l.getD 0 0 : Nat), (l.getD 1 0 : Nat))
def rowW (c : Nat) (l : List Nat) (o : Nat) : Option (List Pr) := if badN c l = true then none else some ((List.range c).map fun i => prW (o.testBit i) (spN l i))
def figN (kind : Str) (c : Nat) (w : List Nat) : Option Fg :=
  if kind = "line" then (rowW c w 0).map .one
  else if kind = "ring" then match w with
    | [] => none
    | o :: r => match rowW c r o with
      | none => none
      | some ps => if (pAt ps 0).1 = 0 then some (.one ps) else none
  else if 0 ∈ w then match rowW c (w.take (w.idxOf 0)) 0, rowW c (w.drop (w.idxOf 0 + 1)) 0 with
    | some ps, some qs => some (.two ps qs)
    | _, _ => none
  else none
def figO : Option Fg → D
  | none => .v .non
  | some f => figD f
theorem bit_add (b x i : Nat) (hb : b ≤ 1) : (b + 2 * x).testBit i = if i = 0 then decide (b = 1) else x.testBit (i - 1) := by
  cases i with
  | zero =>
    rw [if_pos rfl, Nat.testBit_zero]
    refine decide_eq_decide.mpr ?_
    omega
  | succ i =>
    rw [if_neg (Nat.succ_ne_zero i), Nat.testBit_succ, show (b + 2 * x) / 2 = x by omega]
    rfl
theorem ltN_bit : ∀ (ps : List Pr) (i : Nat) (j : Int), (∀ p ∈ ps, p.1 ≠ p.2) → ((ltN ps j).testBit i = true ↔ ∃ p, ps[i]? = some p ∧ (p.1 = j ∨ p.2 = j))
  | [], i, j, _ => by
    show (0 : Nat).testBit i = true ↔ _
    rw [Nat.zero_testBit]
    simp
  | p :: r, i, j, h => by
    have hp := h p List.mem_cons_self
    unfold ltN
    have hb : ((if p.1 = j then 1 else 0) + if p.2 = j then 1 else 0) ≤ 1 := by
      by_cases e1 : p.1 = j
      · rw [if_pos e1, if_neg (fun e2 => hp (e1.trans e2.symm))]; decide
      · rw [if_neg e1]; split <;> omega
    rw [bit_add _ _ _ hb]
    cases i with
    | zero =>
      rw [if_pos rfl, decide_eq_true_eq]
      simp only [List.getElem?_cons_zero, Option.some.injEq, exists_eq_left']
      by_cases e1 : p.1 = j
      · rw [if_pos e1, if_neg (fun e2 => hp (e1.trans e2.symm))]; simp [e1]
      · rw [if_neg e1]; by_cases e2 : p.2 = j <;> simp [e1, e2]
    | succ i =>
      rw [if_neg (Nat.succ_ne_zero i), Nat.add_sub_cancel, ltN_bit r i j fun q hq => h q (List.mem_cons_of_mem _ hq), List.getElem?_cons_succ]
theorem ovN_bit : ∀ (ps : List Pr) (i : Nat), (ovN ps).testBit i = true ↔ ∃ p, ps[i]? = some p ∧ p.2 < p.1
  | [], i => by
    show (0 : Nat).testBit i = true ↔ _
    rw [Nat.zero_testBit]
    simp
  | p :: r, i => by
    unfold ovN
    rw [bit_add _ _ _ (by split <;> omega)]
    cases i with
    | zero =>
      rw [if_pos rfl, decide_eq_true_eq]
      simp only [List.getElem?_cons_zero, Option.some.injEq, exists_eq_left']
      by_cases e : p.2 < p.1 <;> simp [e]
    | succ i =>
      rw [if_neg (Nat.succ_ne_zero i), Nat.add_sub_cancel, ovN_bit r i, List.getElem?_cons_succ]
theorem filt1 {a m : Nat} (h : a < m) : ((List.range m).filter fun j => decide (j = a)) = [a] := by
  induction m with
  | zero => omega
  | succ m ih =>
    rw [List.range_succ, List.filter_append]
    by_cases e : m = a
    · subst e
      rw [show ((List.range m).filter fun j => decide (j = m)) = [] from List.filter_eq_nil_iff.mpr fun j hj => by have := List.mem_range.mp hj; simp; omega]
      simp
    · rw [ih (by omega)]
      simp [e]
theorem filt2 {a b m : Nat} (h : a < b) (hb : b < m) : ((List.range m).filter fun j => decide (j = a ∨ j = b)) = [a, b] := by
  induction m with
  | zero => omega
  | succ m ih =>
    rw [List.range_succ, List.filter_append]
    by_cases e : m = b
    · subst e
      rw [show ((List.range m).filter fun j => decide (j = a ∨ j = m)) = (List.range m).filter fun j => decide (j = a) from List.filter_congr fun j hj => by have := List.mem_range.mp hj; refine decide_eq_decide.mpr ?_; omega, filt1 h]
      simp
    · rw [ih (by omega)]
      have : ¬ (m = a ∨ m = b) := by omega
      simp [this]
structure RowP (kind : Str) (ps : List Pr) : Prop where
  ne : ps ≠ []
  df : ∀ p ∈ ps, p.1 ≠ p.2
  ln : kind = "line" → ∀ p ∈ ps, p.1 < p.2
  bd : ∀ p ∈ ps, 0 ≤ p.1 ∧ p.1 < (mN ps : Int) ∧ 0 ≤ p.2 ∧ p.2 < (mN ps : Int)
  al : ∀ j : Nat, j < mN ps → ∃ p ∈ ps, p.1 = (j : Int) ∨ p.2 = (j : Int)
  hd : kind = "ring" → (pAt ps 0).1 = 0
theorem mem_dedL_iff {ps : List Pr} {x : Int} : x ∈ dedL ps ↔ ∃ p ∈ ps, p.1 = x ∨ p.2 = x := by
  unfold dedL
  rw [ded_mem]
  simp only [List.not_mem_nil, false_or]
  unfold moms
  rw [List.mem_flatMap]
  constructor
  · rintro ⟨p, hp, h⟩
    rcases List.mem_cons.mp h with rfl | h
    · exact ⟨p, hp, .inl rfl⟩
    · rw [List.mem_singleton.mp h]; exact ⟨p, hp, .inr rfl⟩
  · rintro ⟨p, hp, rfl | rfl⟩
    · exact ⟨p, hp, List.mem_cons_self⟩
    · exact ⟨p, hp, List.mem_cons_of_mem _ List.mem_cons_self⟩
theorem full_all {d : List Int} (nd : d.Nodup) (h : ∀ x ∈ d, 0 ≤ x ∧ x < (d.length : Int)) {j : Nat} (hj : j < d.length) : (j : Int) ∈ d := Decidable.byContradiction fun c => by
  have := php d.length ((j : Int) :: d) (List.nodup_cons.mpr ⟨c, nd⟩) fun x hx => by
    rcases List.mem_cons.mp hx with rfl | hx
    · omega
    · exact h x hx
  rw [List.length_cons] at this
  omega
theorem rowP_norm {kind : Str} (hk : kind = "line" ∨ kind = "ring") {ns : List Pr} (hne : ns ≠ []) (h : ∀ x ∈ ns, prOk kind x) : RowP kind (normF kind ns) ∧ (mN (normF kind ns) ≤ 2 * ns.length) := by
  have me := moments_eq (kind := kind) hne
  have em : mN (normF kind ns) = (dedL (normF kind ns)).length := by unfold mN; rw [me]; omega
  have fu := norm_full (kind := kind) (ns := ns)
  have nl : (normF kind ns).length = ns.length := norm_len kind ns
  have nn : normF kind ns ≠ [] := fun e => by rw [e] at nl; exact hne (List.length_eq_zero_iff.mp nl.symm)
  refine ⟨⟨nn, ?_, ?_, ?_, ?_, ?_⟩, by rw [em, ← nl]; exact dedL_len _⟩
  · rcases hk with rfl | rfl
    · intro p hp e
      have := norm_line h p hp
      omega
    · exact norm_ring h
  · intro e
    subst e
    exact norm_line h
  · intro p hp
    have h1 := fu p.1 (mem_dedL_iff.mpr ⟨p, hp, .inl rfl⟩)
    have h2 := fu p.2 (mem_dedL_iff.mpr ⟨p, hp, .inr rfl⟩)
    rw [em]
    omega
  · intro j hj
    rw [em] at hj
    exact mem_dedL_iff.mp (full_all (ded_nodup List.nodup_nil) fu hj)
  · intro e
    subst e
    cases ns with
    | nil => exact absurd rfl hne
    | cons p r =>
      obtain ⟨z, r', e⟩ := norm_head p r
      rw [e]; rfl
theorem lettersN_len (ps : List Pr) : (lettersN ps).length = mN ps := by unfold lettersN; rw [List.length_map, List.length_range]
theorem lettersN_at (ps : List Pr) {j : Nat} (h : j < mN ps) : (lettersN ps).getD j 0 = ltN ps (j : Int) := by
  unfold lettersN
  rw [List.getD_eq_getElem?_getD, List.getElem?_map, List.getElem?_range h]; rfl
theorem lettersN_pos {kind : Str} {ps : List Pr} (R : RowP kind ps) : 0 ∉ lettersN ps := fun h => by
  obtain ⟨j, hj, e⟩ := List.mem_map.mp h
  have hj := List.mem_range.mp hj
  obtain ⟨p, hp, hpj⟩ := R.al j hj
  obtain ⟨i, hi⟩ := List.getElem?_of_mem hp
  have := (ltN_bit ps i (j : Int) R.df).mpr ⟨p, hi, hpj⟩
  rw [e, Nat.zero_testBit] at this
  cases this
theorem spN_letters {kind : Str} {ps : List Pr} (R : RowP kind ps) {i : Nat} {p : Pr} (hi : ps[i]? = some p) :
    spN (lettersN ps) i = if p.1 < p.2 then [p.1.toNat, p.2.toNat] else [p.2.toNat, p.1.toNat] := by
  have hp := List.mem_of_getElem? hi
  obtain ⟨b1, b2, b3, b4⟩ := R.bd p hp
  have hd := R.df p hp
  unfold spN
  rw [lettersN_len]
  have e : ((List.range (mN ps)).filter fun j => ((lettersN ps).getD j 0).testBit i) = (List.range (mN ps)).filter fun j : Nat => decide (j = p.1.toNat ∨ j = p.2.toNat) := List.filter_congr fun j hj => by
    have hj := List.mem_range.mp hj
    rw [lettersN_at ps hj]
    refine Bool.eq_iff_iff.mpr ?_
    rw [ltN_bit ps i _ R.df, decide_eq_true_eq]
    constructor
    · rintro ⟨q, hq, h⟩
      rw [hi] at hq
      cases hq
      omega
    · intro h
      exact ⟨p, hi, by omega⟩
  rw [e]
  by_cases c : p.1 < p.2
  · rw [if_pos c]
    exact filt2 (by omega) (by omega)
  · rw [if_neg c]
    rw [show ((List.range (mN ps)).filter fun j : Nat => decide (j = p.1.toNat ∨ j = p.2.toNat)) = (List.range (mN ps)).filter fun j : Nat => decide (j = p.2.toNat ∨ j = p.1.toNat) from List.filter_congr fun j _ => decide_eq_decide.mpr Or.comm]
    exact filt2 (by omega) (by omega)
theorem rowW_letters {kind : Str} {ps : List Pr} (R : RowP kind ps) {o : Nat} (ho : ∀ i p, ps[i]? = some p → o.testBit i = decide (p.2 < p.1)) : rowW ps.length (lettersN ps) o = some ps := by
  unfold rowW
  have hb : badN ps.length (lettersN ps) = false := by
    unfold badN
    rw [decide_eq_false (lettersN_pos R), Bool.false_or]
    refine List.any_eq_false.mpr fun i hi => ?_
    have hi := List.mem_range.mp hi
    rw [spN_letters R (List.getElem?_eq_getElem hi)]
    split <;> simp
  rw [hb, if_neg (by decide)]
  congr 1
  apply List.ext_getElem?
  intro i
  rw [List.getElem?_map]
  by_cases hi : i < ps.length
  · rw [List.getElem?_range hi, List.getElem?_eq_getElem hi]
    have hp := List.getElem?_eq_getElem hi
    obtain ⟨b1, b2, b3, b4⟩ := R.bd _ (List.getElem_mem hi)
    have hd := R.df _ (List.getElem_mem hi)
    show some (prW (o.testBit i) (spN (lettersN ps) i)) = _
    rw [spN_letters R hp, ho i _ hp]
    congr 1
    generalize ps[i] = p at b1 b2 b3 b4 hd
    by_cases c : p.1 < p.2
    · rw [if_pos c, decide_eq_false (by omega)]
      unfold prW
      rw [if_neg (by decide)]
      exact Prod.ext (show ((p.1.toNat : Nat) : Int) = p.1 by omega) (show ((p.2.toNat : Nat) : Int) = p.2 by omega)
    · rw [if_neg c, decide_eq_true (by omega)]
      unfold prW
      rw [if_pos rfl]
      exact Prod.ext (show ((p.1.toNat : Nat) : Int) = p.1 by omega) (show ((p.2.toNat : Nat) : Int) = p.2 by omega)
  · rw [List.getElem?_eq_none (by rw [List.length_range]; omega), List.getElem?_eq_none (by omega)]; rfl
def FigP (kind : Str) (count : Nat) : Fg → Prop
  | .one ps => (kind = "line" ∨ kind = "ring") ∧ ps.length = count ∧ RowP kind ps ∧ mN ps ≤ 2 * count
  | .two ps qs => kind = "box" ∧ ps.length = count ∧ RowP "line" ps ∧ mN ps ≤ 2 * count ∧ qs.length = count ∧ RowP "line" qs ∧ mN qs ≤ 2 * count
theorem FigOk.p {kind : Str} {count : Nat} (c1 : 1 ≤ count) : ∀ {f : Fg}, FigOk kind count f → FigP kind count f
  | .one ps, ⟨hk, ns, hl, ho, e⟩ => by
    subst e
    have := rowP_norm hk (ne_nil hl c1) ho
    rw [hl] at this
    exact ⟨hk, by rw [norm_len]; exact hl, this.1, this.2⟩
  | .two ps qs, ⟨hk, ⟨ns, hl, ho, e⟩, ms, hl2, ho2, e2⟩ => by
    subst e; subst e2
    have h1 := rowP_norm (.inl rfl) (ne_nil hl c1) ho
    have h2 := rowP_norm (.inl rfl) (ne_nil hl2 c1) ho2
    rw [hl] at h1
    rw [hl2] at h2
    exact ⟨hk, by rw [norm_len]; exact hl, h1.1, h1.2, by rw [norm_len]; exact hl2, h2.1, h2.2⟩
theorem wordN_one (kind : Str) (ps : List Pr) : wordN kind (.one ps) = if kind = "line" then lettersN ps else ovN ps :: lettersN ps := rfl
theorem idx_app {l m : List Nat} (h : 0 ∉ l) : (l ++ [0] ++ m).idxOf 0 = l.length := by
  rw [List.append_assoc, List.idxOf_append, if_neg h]
  simp
theorem figN_word {kind : Str} {count : Nat} {f : Fg} (h : FigP kind count f) : figN kind count (wordN kind f) = some f := by
  cases f with
  | one ps =>
    obtain ⟨hk, hl, R, _⟩ := h
    rcases hk with rfl | rfl
    · unfold figN
      rw [wordN_one, if_pos rfl, if_pos rfl, ← hl, rowW_letters R fun i p hp => by
        rw [Nat.zero_testBit]
        have := R.ln rfl p (List.mem_of_getElem? hp)
        exact (decide_eq_false (by omega)).symm]
      rfl
    · have e : wordN "ring" (.one ps) = ovN ps :: lettersN ps := (wordN_one _ _).trans (if_neg (by decide))
      unfold figN
      rw [if_neg (by decide), if_pos rfl, e]
      show (match rowW count (lettersN ps) (ovN ps) with | none => none | some ps => _) = _
      rw [← hl, rowW_letters R fun i p hp => by
        refine Bool.eq_iff_iff.mpr ?_
        rw [ovN_bit, decide_eq_true_eq]
        constructor
        · rintro ⟨q, hq, h⟩
          rw [hp] at hq; cases hq; exact h
        · exact fun h => ⟨p, hp, h⟩]
      exact if_pos (R.hd rfl)
  | two ps qs =>
    obtain ⟨rfl, hl, R, _, hl2, R2, _⟩ := h
    have z1 := lettersN_pos R
    have line : ∀ {ps : List Pr}, RowP "line" ps → rowW ps.length (lettersN ps) 0 = some ps := fun R => rowW_letters R fun i p hp => by
      rw [Nat.zero_testBit]
      have := R.ln rfl p (List.mem_of_getElem? hp)
      exact (decide_eq_false (by omega)).symm
    have e : wordN "box" (.two ps qs) = lettersN ps ++ [0] ++ lettersN qs := rfl
    unfold figN
    rw [if_neg (by decide), if_neg (by decide), e, if_pos (by simp), idx_app z1]
    have t1 : (lettersN ps ++ [0] ++ lettersN qs).take (lettersN ps).length = lettersN ps := by rw [List.append_assoc, List.take_left]
    have t2 : (lettersN ps ++ [0] ++ lettersN qs).drop ((lettersN ps).length + 1) = lettersN qs := by
      have : (lettersN ps).length + 1 = (lettersN ps ++ [0]).length := by rw [List.length_append]; rfl
      rw [this, List.drop_left]
    rw [t1, t2]
    have r1 := line R
    have r2 := line R2
    rw [hl] at r1
    rw [hl2] at r2
    rw [r1, r2]
end DL
namespace DL
open PySem L2
def natD (l : List Nat) : List D := intsD (natI l)
theorem nat_app (l m : List Nat) : natD (l ++ m) = natD l ++ natD m := by unfold natD natI; rw [List.map_append, ints_app]
theorem atI_nat_of {l : List D} {i : Nat} {j : Int} {x : D} (h : l[i]? = some x) (e : j = (i : Int)) : atI l j = some x := by subst e; exact atI_nat h
theorem ix_in {m i : Nat} {j : Int} (h : i < m) (e : j = (i : Int)) : ixN m j = some i := by rw [e]; exact ixN_n h
end DL
namespace DL
open PySem L2
end DL
namespace DL
open PySem L2
structure StAt (h h' : Hd) (F : Addr) (c : Nat) (ad : Nat → Addr) (A : Nat → List Nat) : Prop where
  f : h' F = some (.lst ((List.range c).map fun i => .v (.ref (ad i))))
  fn : h F = none
  rw : ∀ i, i < c → h' (ad i) = some (.lst (natD (A i)))
  rn : ∀ i, i < c → h (ad i) = none
  ne : ∀ i, i < c → ad i ≠ F
  inj : ∀ i, i < c → ∀ j, j < c → ad i = ad j → i = j
  sb : Sub h h'
theorem StAt.up {h h1 h2 : Hd} {F : Addr} {c : Nat} {ad : Nat → Addr} {A : Nat → List Nat} (S : StAt h h1 F c ad A) (s : Sub h1 h2) : StAt h h2 F c ad A :=
  ⟨s _ _ S.f, S.fn, fun i hi => s _ _ (S.rw i hi), S.rn, S.ne, S.inj, S.sb.trans s⟩
theorem StAt.congr {h h1 : Hd} {F : Addr} {c : Nat} {ad : Nat → Addr} {A B : Nat → List Nat} (S : StAt h h1 F c ad A) (e : ∀ i, i < c → A i = B i) : StAt h h1 F c ad B :=
  ⟨S.f, S.fn, fun i hi => by rw [← e i hi]; exact S.rw i hi, S.rn, S.ne, S.inj, S.sb⟩
theorem StAt.put {h h1 : Hd} {F : Addr} {c : Nat} {ad : Nat → Addr} {A : Nat → List Nat} (S : StAt h h1 F c ad A) {i : Nat} (hi : i < c) (l : List Nat) : StAt h (put h1 (ad i) (.lst (natD l))) F c ad fun j => if j = i then l else A j :=
  ⟨by rw [put_ne (S.ne i hi).symm]; exact S.f, S.fn, fun j hj => by
    by_cases e : j = i
    · subst e; rw [if_pos rfl, put_same]
    · rw [if_neg e, put_ne (fun z => e (S.inj j hj i hi z))]; exact S.rw j hj, S.rn, S.ne, S.inj, sub_at S.sb (S.rn i hi)⟩
theorem StAt.at {h h1 : Hd} {F : Addr} {c : Nat} {ad : Nat → Addr} {A : Nat → List Nat} (S : StAt h h1 F c ad A) {i : Nat} {j : Int} (hi : i < c) (e : j = (i : Int)) : atI ((List.range c).map fun i => D.v (.ref (ad i))) j = some (.v (.ref (ad i))) :=
  atI_nat_of (by rw [List.getElem?_map, List.getElem?_range hi]; rfl) e
end DL
namespace DL
open PySem L2
end DL
namespace DL
open PySem L2
end DL
namespace DL
open PySem L2
open PySem.W (alike alikeAll AllAlike Sortable dataLe)
def valW (kind : Str) (c : Nat) (w : List Nat) : D := figO (figN kind c w)
theorem valW_word {kind : Str} {c : Nat} {f : Fg} (h : FigP kind c f) : valW kind c (wordN kind f) = figD f := by unfold valW; rw [figN_word h]; rfl
end DL
namespace DL
open PySem L2
open PySem.W (alike alikeAll AllAlike Sortable dataLe dataLt dataLe_eq dataLt_tuple dataLt_cons)
theorem alike_prs : ∀ ps qs : List Pr, alikeAll (pyOfs (ps.map prD)) (pyOfs (qs.map prD)) = true
  | [], [] => by simp [pyOfs, alikeAll]
  | [], _ :: _ => by simp [pyOfs, alikeAll]
  | _ :: _, [] => by simp [pyOfs, alikeAll]
  | p :: r, q :: t => by
    have := alike_prs r t
    show alikeAll (PyData.tuple [.int p.1, .int p.2] :: pyOfs (r.map prD)) (PyData.tuple [.int q.1, .int q.2] :: pyOfs (t.map prD)) = true
    simp [alikeAll, alike, this]
theorem alike_fig {kind : Str} {c : Nat} {f g : Fg} (hf : FigP kind c f) (hg : FigP kind c g) : alike (pyOf (figD f)) (pyOf (figD g)) = true := by
  cases f with
  | one ps =>
    cases g with
    | one qs =>
      show alike (.tuple (pyOfs (ps.map prD))) (.tuple (pyOfs (qs.map prD))) = true
      simp [alike, alike_prs]
    | two qs rs =>
      obtain ⟨hk, _⟩ := hf
      obtain ⟨rfl, _⟩ := hg
      rcases hk with hk | hk <;> exact absurd hk (by decide)
  | two ps rs =>
    cases g with
    | one qs =>
      obtain ⟨hk, _⟩ := hg
      obtain ⟨rfl, _⟩ := hf
      rcases hk with hk | hk <;> exact absurd hk (by decide)
    | two qs ss =>
      show alike (.tuple [.tuple (pyOfs (ps.map prD)), .tuple (pyOfs (rs.map prD))]) (.tuple [.tuple (pyOfs (qs.map prD)), .tuple (pyOfs (ss.map prD))]) = true
      simp [alike, alikeAll, alike_prs]
def FigWs (kind : Str) (c : Nat) (l : List (List Nat)) : Prop := ∀ w ∈ l, ∃ f, FigP kind c f ∧ w = wordN kind f
theorem FigWs.al {kind : Str} {c : Nat} {l : List (List Nat)} (h : FigWs kind c l) {w v : List Nat} (hw : w ∈ l) (hv : v ∈ l) : alike (pyOf (valW kind c w)) (pyOf (valW kind c v)) = true := by
  obtain ⟨f, hf, rfl⟩ := h w hw
  obtain ⟨g, hg, rfl⟩ := h v hv
  rw [valW_word hf, valW_word hg]
  exact alike_fig hf hg
end DL
namespace DL
open PySem L2
section
variable {X : Cx}
end
end DL
namespace DL
open PySem L2
def nameSgn : List Nat := ("abcdefghijklmnopqrstuvwxyz0123456789" : Str).cps.toList
def NameW (w : Str) : Prop := 1 ≤ w.length ∧ w.length ≤ 6 ∧ ∀ c ∈ w.cps.toList, c ∈ nameSgn
def HdL (w : Str) : Prop := ∃ c r, w.cps.toList = c :: r ∧ c ∈ ("abcdefghijklmnopqrstuvwxyz" : Str).cps.toList
def NameV (w : Str) : Prop := NameW w ∧ HdL w
theorem str_app (a b : Str) : (a ++ b).cps.toList = a.cps.toList ++ b.cps.toList := by
  show (a.cps ++ b.cps).toList = _
  rw [Array.toList_append]
theorem str_len (a : Str) : a.cps.toList.length = a.length := Array.length_toList
theorem str_app_len (a b : Str) : (a ++ b).length = a.length + b.length := by
  rw [← str_len, str_app, List.length_append, str_len, str_len]
theorem str_eq {a b : Str} (h : a.cps.toList = b.cps.toList) : a = b := by
  cases a; cases b
  simp at h
  rw [h]
theorem sgn_at {l : List Nat} {k : Int} {n : Nat} (hl : l.length = n) (k0 : 0 ≤ k) (k1 : k < n) : ∃ c ∈ l, atI l k = some c := by
  obtain ⟨j, rfl⟩ : ∃ j : Nat, k = j := ⟨k.toNat, by omega⟩
  have hj : j < l.length := by omega
  exact ⟨l[j], List.getElem_mem hj, atI_nat (List.getElem?_eq_getElem hj)⟩
theorem cutS_sub {a : Str} {lo hi : Option Int} {c : Nat} (h : c ∈ (cutS a lo hi).cps.toList) : c ∈ a.cps.toList := by
  unfold cutS at h
  exact List.mem_of_mem_drop (List.mem_of_mem_take h)
theorem cut5_len (w : Str) : (cutS w none (some 5)).length ≤ 5 := by
  rw [← str_len]
  unfold cutS
  show (List.take _ _).length ≤ _
  rw [List.length_take]
  have : HT.sIx w.length w.length (some 5) ≤ 5 := by
    unfold HT.sIx
    simp
    omega
  omega
def freshS (b : Str) (ns : List Str) : D → Option D
  | .v (.str s) => if b ++ s ∈ ns then none else some (.v (.str (b ++ s)))
  | _ => none
def signs8 : List Str := ["0", "1", "2", "3", "4", "5", "6", "z"]
theorem fresh_map (b : Str) (ns : List Str) : ∀ l : List Str, (l.map sD).filterMap (freshS b ns) = ((l.filter fun s => decide (b ++ s ∉ ns)).map (b ++ ·)).map sD
  | [] => rfl
  | s :: r => by
    by_cases m : b ++ s ∈ ns
    · rw [List.map_cons, List.filterMap_cons_none (by show (if _ then _ else _) = _; rw [if_pos m]), fresh_map b ns r, List.filter_cons_of_neg (by simpa using m)]
    · rw [List.map_cons, List.filterMap_cons_some (b := sD (b ++ s)) (by show (if _ then _ else _) = _; rw [if_neg m]; rfl), fresh_map b ns r, List.filter_cons_of_pos (by simpa using m)]; rfl
theorem fresh_ok {w : Str} {ns : List Str} (hl : ns.length ≤ 7) : ∃ fs : List Str, (chars "0123456z").filterMap (freshS (cutS w none (some 5)) ns) = fs.map sD ∧ 1 ≤ fs.length ∧ fs.length ≤ 8 ∧ ∀ f ∈ fs, f ∉ ns ∧ (NameV w → NameV f) := by
  have e : chars "0123456z" = signs8.map sD := by decide
  refine ⟨_, by rw [e, fresh_map], ?_, ?_, fun f hf => ?_⟩
  · refine Nat.pos_of_ne_zero fun z => ?_
    have z := List.length_eq_zero_iff.mp z
    rw [List.map_eq_nil_iff, List.filter_eq_nil_iff] at z
    have inj : ∀ a b : Str, cutS w none (some 5) ++ a = cutS w none (some 5) ++ b → a = b := fun a b h => by
      have : (cutS w none (some 5) ++ a).cps.toList = (cutS w none (some 5) ++ b).cps.toList := by rw [h]
      rw [str_app, str_app] at this
      exact str_eq (List.append_cancel_left this)
    have := nodup_len (l := signs8.map (cutS w none (some 5) ++ ·)) (m := ns) (List.Pairwise.map _ (fun a b (n : a ≠ b) h => n (inj a b h)) (by decide : signs8.Nodup)) (fun x hx => by
      obtain ⟨s, hs, rfl⟩ := List.mem_map.mp hx
      exact Decidable.byContradiction fun k => z s hs (decide_eq_true k))
    rw [List.length_map] at this
    have : signs8.length = 8 := rfl
    omega
  · rw [List.length_map]
    exact List.length_filter_le _ _
  · obtain ⟨s, hs, rfl⟩ := List.mem_map.mp hf
    obtain ⟨h1, h2⟩ := List.mem_filter.mp hs
    refine ⟨of_decide_eq_true h2, fun nw => ?_⟩
    have l1 : s.length = 1 ∧ ∀ c ∈ s.cps.toList, c ∈ nameSgn := (by decide : ∀ s ∈ signs8, s.length = 1 ∧ ∀ c ∈ s.cps.toList, c ∈ nameSgn) s h1
    have lc := cut5_len w
    obtain ⟨nw, c0, r0, e0, m0⟩ := nw
    refine ⟨⟨by rw [str_app_len]; omega, by rw [str_app_len]; omega, fun c hc => ?_⟩, ?_⟩
    · rw [str_app] at hc
      rcases List.mem_append.mp hc with k | k
      · exact nw.2.2 c (cutS_sub k)
      · exact l1.2 c k
    · have h5 : HT.sIx w.length w.length (some 5) = min 5 w.length := HT.sIx_nat w.length w.length 5
      have n1 := nw.1
      obtain ⟨k, hk⟩ : ∃ k, min 5 w.length = k + 1 := ⟨min 5 w.length - 1, by omega⟩
      have ec : (cutS w none (some 5)).cps.toList = c0 :: r0.take k := by
        unfold cutS
        show (w.cps.toList.drop 0).take (HT.sIx w.length w.length (some 5) - 0) = _
        rw [List.drop_zero, Nat.sub_zero, h5, hk, e0, List.take_succ_cons]
      exact ⟨c0, r0.take k ++ s.cps.toList, by rw [str_app, ec]; rfl, m0⟩
def sp_law_names : SpD := fun ds h Q _ => ds.length = 2 ∧ ∃ (p q : Addr) (cells : List Int) (count : Nat), ds = [.v (.ref p), .v (.int (count : Int))] ∧ PoolAt h p q cells ∧ count ≤ 7 ∧
  ∀ (ns : List Str) (h' : Hd), ns.length = count → ns.Nodup → (∀ n ∈ ns, NameV n) → PoolAt h' p q cells → SubX p h h' → Q (.t (ns.map sD)) h'
def rd_law_names (E : ER) : SD :=
  dSeq (dAsg (dC (.v (.str "abcdefghijklmnopqrstuvwxyz"))) (nG 2))
  (dSeq (dAsg (dLst (dNil)) (nG 3))
  (dSeq (dAsg (dCall sp_law_draw E (dCons (dVar 0) (dCons (dC (.v (.int 2))) (dNil)))) (nG 4))
  (dSeq (dAsg (d2 pIt (dVar 2) (dCall sp_law_draw E (dCons (dVar 0) (dCons (dC (.v (.int 26))) (dNil))))) (nG 5))
  (dSeq (dFor (iRng1D (dCons (dVar 1) (dNil))) (nG 6) (dSeq (dAsg (dIf (dTest (d2 pEqA (dVar 4) (dC (.v (.int 1))))) (dVar 5) (d2 pIt (dVar 2) (dCall sp_law_draw E (dCons (dVar 0) (dCons (dC (.v (.int 26))) (dNil)))))) (nG 7))
  (dSeq (dFor (iRng1D (dCons (dCall sp_law_draw E (dCons (dVar 0) (dCons (dC (.v (.int 6))) (dNil)))) (dNil))) (nG 8) (dAsg (d2 pAdd (dVar 7) (d2 pIt (d2 pAdd (dVar 2) (dC (.v (.str "0123456789")))) (dCall sp_law_draw E (dCons (dVar 0) (dCons (dC (.v (.int 36))) (dNil)))))) (nG 7)))
  (dSeq (dIfS (dTest (d2 pMem (dVar 7) (dVar 3))) (dSeq (dAsg (dLc (iAnyD (dC (.v (.str "0123456z")))) (nG 10) (dTest (d2 pNotMem (d2 pAdd (dSl (dVar 7) (dNoPart) (dPart (dC (.v (.int 5))))) (dVar 10)) (dVar 3))) (d2 pAdd (dSl (dVar 7) (dNoPart) (dPart (dC (.v (.int 5))))) (dVar 10)) [10]) (nG 9))
  (dAsg (d2 pIt (dVar 9) (dCall sp_law_draw E (dCons (dVar 0) (dCons (dCB cLen (dCons (dVar 9) (dNil))) (dNil))))) (nG 7))) (dNext))
  (dDrop (dBM "list" mAppend (dVar 3) (dCons (dVar 7) (dNil))))))))
  (dRet (dCB cTuple (dCons (dVar 3) (dNil))))))))
abbrev N_law_names : List Str := ["pool", "count", "letters", "found", "alike", "start", "number", "name", "turn", "fresh", "sign"]
def rdn1 (E : ER) : SD :=
  dSeq (dFor (iRng1D (dCons (dCall sp_law_draw E (dCons (dVar 0) (dCons (dC (.v (.int 6))) (dNil)))) (dNil))) (nG 8) (dAsg (d2 pAdd (dVar 7) (d2 pIt (d2 pAdd (dVar 2) (dC (.v (.str "0123456789")))) (dCall sp_law_draw E (dCons (dVar 0) (dCons (dC (.v (.int 36))) (dNil)))))) (nG 7)))
  (dSeq (dIfS (dTest (d2 pMem (dVar 7) (dVar 3))) (dSeq (dAsg (dLc (iAnyD (dC (.v (.str "0123456z")))) (nG 10) (dTest (d2 pNotMem (d2 pAdd (dSl (dVar 7) (dNoPart) (dPart (dC (.v (.int 5))))) (dVar 10)) (dVar 3))) (d2 pAdd (dSl (dVar 7) (dNoPart) (dPart (dC (.v (.int 5))))) (dVar 10)) [10]) (nG 9))
  (dAsg (d2 pIt (dVar 9) (dCall sp_law_draw E (dCons (dVar 0) (dCons (dCB cLen (dCons (dVar 9) (dNil))) (dNil))))) (nG 7))) (dNext))
  (dDrop (dBM "list" mAppend (dVar 3) (dCons (dVar 7) (dNil)))))
def rdn2 (E : ER) : SD :=
  dDrop (dBM "list" mAppend (dVar 3) (dCons (dVar 7) (dNil)))
theorem ok_law_names : ∀ ds h Q E, sp_law_names ds h Q E → rd_law_names (fun x _ h' => E x h') (fin Q) (startD N_law_names ds) h := by
  rintro ds h Q E ⟨_, p, q, cells, c, rfl, P, c6, ret⟩
  show rd_law_names _ _ [some (.v (.ref p)), some (.v (.int (c : Int))), none, none, none, none, none, none, none, none, none] h
  unfold rd_law_names
  try simp -dsimp -implicitDefEqProofs only [↓ers, ↓clx_Moves, ↓clx_Behind, ↓rds17, ↓rds15, ↓rds14, ↓rds13, ↓rds1, ↓rds2, ↓rds3, ↓rds4, ↓rds5, ↓rds6, ↓rds7, ↓rds8, ↓rds9, ↓rds10, ↓rds11, List.set_cons_zero, List.set_cons_succ, ne_eq, not_false_eq_true, decide_eq_true_eq, Bool.or_true, Bool.or_false, Bool.true_or, Bool.false_or, Bool.and_true, Bool.true_and, Bool.and_false, Bool.false_and, Bool.not_true, Bool.not_false, reduceCtorEq, beq_self_eq_true, true_and, and_true, if_true, if_false, Bool.false_eq_true]
  refine al_i fun fa hfa => ?_
  have np := (pool_ne P hfa).1
  have nq := (pool_ne P hfa).2
  have P0 := pool_keep (o := .lst []) P hfa
  have x0 : SubX p h (put h fa (.lst [])) := (SubX.refl p h).new hfa
  have g0 : put h fa (.lst []) fa = some (.lst (([] : List Str).map sD)) := put_same
  generalize put h fa (.lst []) = h0 at P0 x0 g0
  try simp -dsimp -implicitDefEqProofs only [↓ers, ↓clx_Moves, ↓clx_Behind, ↓rds17, ↓rds15, ↓rds14, ↓rds13, ↓rds1, ↓rds2, ↓rds3, ↓rds4, ↓rds5, ↓rds6, ↓rds7, ↓rds8, ↓rds9, ↓rds10, ↓rds11, List.set_cons_zero, List.set_cons_succ, ne_eq, not_false_eq_true, decide_eq_true_eq, Bool.or_true, Bool.or_false, Bool.true_or, Bool.false_or, Bool.and_true, Bool.true_and, Bool.and_false, Bool.false_and, Bool.not_true, Bool.not_false, reduceCtorEq, beq_self_eq_true, true_and, and_true, if_true, if_false, Bool.false_eq_true]
  refine draw_i P0 (by decide) (by decide) fun k h1 P1 x1 k0 k1 => ?_
  have x1 := x0.trans x1
  have g1 := ‹SubX p h0 h1› _ _ np g0
  try simp -dsimp -implicitDefEqProofs only [↓ers, ↓clx_Moves, ↓clx_Behind, ↓rds17, ↓rds15, ↓rds14, ↓rds13, ↓rds1, ↓rds2, ↓rds3, ↓rds4, ↓rds5, ↓rds6, ↓rds7, ↓rds8, ↓rds9, ↓rds10, ↓rds11, List.set_cons_zero, List.set_cons_succ, ne_eq, not_false_eq_true, decide_eq_true_eq, Bool.or_true, Bool.or_false, Bool.true_or, Bool.false_or, Bool.and_true, Bool.true_and, Bool.and_false, Bool.false_and, Bool.not_true, Bool.not_false, reduceCtorEq, beq_self_eq_true, true_and, and_true, if_true, if_false, Bool.false_eq_true]
  refine draw_i P1 (by decide) (by decide) fun k2 h2 P2 x2 k20 k21 => ?_
  have g2 := x2 _ _ np g1
  have x2 := x1.trans x2
  obtain ⟨c0, hc0, ec0⟩ := sgn_at (l := ("abcdefghijklmnopqrstuvwxyz" : Str).cps.toList) (n := 26) (by decide) k20 k21
  have az : ∀ c ∈ ("abcdefghijklmnopqrstuvwxyz" : Str).cps.toList, c ∈ nameSgn := by decide
  have azd : ∀ c ∈ ("abcdefghijklmnopqrstuvwxyz" ++ "0123456789" : Str).cps.toList, c ∈ nameSgn := by decide
  have one : ∀ c, c ∈ nameSgn → NameW ⟨#[c]⟩ := fun c hc => ⟨(by show 1 ≤ 1; decide), (by show 1 ≤ 6; decide), fun d hd => by
    have : d ∈ [c] := hd
    rw [List.mem_singleton.mp this]
    exact hc⟩
  try simp -dsimp -implicitDefEqProofs only [↓ers, ↓clx_Moves, ↓clx_Behind, ↓rds17, ↓rds15, ↓rds14, ↓rds13, ↓rds1, ↓rds2, ↓rds3, ↓rds4, ↓rds5, ↓rds6, ↓rds7, ↓rds8, ↓rds9, ↓rds10, ↓rds11, List.set_cons_zero, List.set_cons_succ, ne_eq, not_false_eq_true, decide_eq_true_eq, Bool.or_true, Bool.or_false, Bool.true_or, Bool.false_or, Bool.and_true, Bool.true_and, Bool.and_false, Bool.false_and, Bool.not_true, Bool.not_false, reduceCtorEq, beq_self_eq_true, true_and, and_true, if_true, if_false, Bool.false_eq_true, ec0]
  refine ⟨by decide, by omega, loop_of (fun i σ h' => PoolAt h' p q cells ∧ SubX p h h' ∧ ∃ ns : List Str, h' fa = some (.lst (ns.map sD)) ∧ ns.length = i ∧ ns.Nodup ∧ (∀ n ∈ ns, NameV n) ∧ ∃ v6 v7 v8 v9,
    σ = [some (.v (.ref p)), some (.v (.int (c : Int))), some (.v (.str "abcdefghijklmnopqrstuvwxyz")), some (.v (.ref fa)), some (.v (.int k)), some (.v (.str ⟨#[c0]⟩)), v6, v7, v8, v9, none])
    ⟨P2, x2, [], g2, rfl, List.nodup_nil, by simp, _, _, _, _, rfl⟩ (fun _ _ _ _ _ => trivial) ?_ ?_⟩
  · rintro i x σ h3 hx ⟨P3, x3, ns, g3, ln, nd, hn, v6, v7, v8, v9, rfl⟩ N hN
    obtain ⟨hi, rfl⟩ := rangeD_get hx
    have hi : i < c := by omega
    have nl : ns.length < sizeLine := Nat.lt_of_le_of_lt (show ns.length ≤ 7 by omega) (by decide)
    have app : ∀ (D0 : EndsD) (w : Str) (h4 : Hd) (w8 w9 : Option D), NameV w → w ∉ ns → PoolAt h4 p q cells → SubX p h h4 → h4 fa = some (.lst (ns.map sD)) →
        rdn2 (fun x _ h' => E x h') (wL D0 N) [some (.v (.ref p)), some (.v (.int (c : Int))), some (.v (.str "abcdefghijklmnopqrstuvwxyz")), some (.v (.ref fa)), some (.v (.int k)), some (.v (.str ⟨#[c0]⟩)), some (.v (.int (0 + (i : Int)))), some (.v (.str w)), w8, w9, none] h4 := by
      intro D0 w h4 w8 w9 nw hw P4 x4 g4
      unfold rdn2
      try simp -dsimp -implicitDefEqProofs only [↓ers, ↓clx_Moves, ↓clx_Behind, ↓rds17, ↓rds15, ↓rds14, ↓rds13, ↓rds1, ↓rds2, ↓rds3, ↓rds4, ↓rds5, ↓rds6, ↓rds7, ↓rds8, ↓rds9, ↓rds10, ↓rds11, List.set_cons_zero, List.set_cons_succ, ne_eq, not_false_eq_true, decide_eq_true_eq, Bool.or_true, Bool.or_false, Bool.true_or, Bool.false_or, Bool.and_true, Bool.true_and, Bool.and_false, Bool.false_and, Bool.not_true, Bool.not_false, reduceCtorEq, beq_self_eq_true, true_and, and_true, if_true, if_false, Bool.false_eq_true, g4, List.length_map]
      refine ⟨nl, hN _ _ ⟨?_, ?_, ns ++ [w], by rw [put_same, List.map_append]; rfl, by rw [List.length_append, List.length_singleton, ln], ?_, ?_, _, _, _, _, rfl⟩⟩
      · exact ⟨by obtain ⟨st, g⟩ := P4.st; exact ⟨st, by rw [put_ne np.symm]; exact g⟩, by rw [put_ne nq.symm]; exact P4.cl, P4.ne, P4.ln⟩
      · intro a u na e
        have : a ≠ fa := fun z => by rw [z, hfa] at e; cases e
        rw [put_ne this]; exact x4 a u na e
      · exact List.nodup_append.mpr ⟨nd, by simp, fun a ha b hb e => hw (by rw [List.mem_singleton.mp hb] at e; exact e ▸ ha)⟩
      · intro n hn'
        rcases List.mem_append.mp hn' with k | k
        · exact hn n k
        · rw [List.mem_singleton.mp k]; exact nw
    have body : ∀ (D0 : EndsD) (w : Str) (h4 : Hd) (w8 : Option D), NameV w → w.length = 1 → PoolAt h4 p q cells → SubX p h h4 → h4 fa = some (.lst (ns.map sD)) →
        rdn1 (fun x _ h' => E x h') (wL D0 N) [some (.v (.ref p)), some (.v (.int (c : Int))), some (.v (.str "abcdefghijklmnopqrstuvwxyz")), some (.v (.ref fa)), some (.v (.int k)), some (.v (.str ⟨#[c0]⟩)), some (.v (.int (0 + (i : Int)))), some (.v (.str w)), w8, v9, none] h4 := by
      intro D0 w h4 w8 nw lw P4 x4 g4
      unfold rdn1
      try simp -dsimp -implicitDefEqProofs only [↓ers, ↓clx_Moves, ↓clx_Behind, ↓rds17, ↓rds15, ↓rds14, ↓rds13, ↓rds1, ↓rds2, ↓rds3, ↓rds4, ↓rds5, ↓rds6, ↓rds7, ↓rds8, ↓rds9, ↓rds10, ↓rds11, List.set_cons_zero, List.set_cons_succ, ne_eq, not_false_eq_true, decide_eq_true_eq, Bool.or_true, Bool.or_false, Bool.true_or, Bool.false_or, Bool.and_true, Bool.true_and, Bool.and_false, Bool.false_and, Bool.not_true, Bool.not_false, reduceCtorEq, beq_self_eq_true, true_and, and_true, if_true, if_false, Bool.false_eq_true]
      refine draw_i P4 (by decide) (by decide) fun m h5 P5 x5 m0 m1 => ?_
      have g5 := x5 _ _ np g4
      have x5 := x4.trans x5
      try simp -dsimp -implicitDefEqProofs only [↓ers, ↓clx_Moves, ↓clx_Behind, ↓rds17, ↓rds15, ↓rds14, ↓rds13, ↓rds1, ↓rds2, ↓rds3, ↓rds4, ↓rds5, ↓rds6, ↓rds7, ↓rds8, ↓rds9, ↓rds10, ↓rds11, List.set_cons_zero, List.set_cons_succ, ne_eq, not_false_eq_true, decide_eq_true_eq, Bool.or_true, Bool.or_false, Bool.true_or, Bool.false_or, Bool.and_true, Bool.true_and, Bool.and_false, Bool.false_and, Bool.not_true, Bool.not_false, reduceCtorEq, beq_self_eq_true, true_and, and_true, if_true, if_false, Bool.false_eq_true]
      refine ⟨by omega, loop_of (fun i2 σ h' => PoolAt h' p q cells ∧ SubX p h h' ∧ h' fa = some (.lst (ns.map sD)) ∧ ∃ (w : Str) (w8 : Option D), NameV w ∧ w.length = 1 + i2 ∧
        σ = [some (.v (.ref p)), some (.v (.int (c : Int))), some (.v (.str "abcdefghijklmnopqrstuvwxyz")), some (.v (.ref fa)), some (.v (.int k)), some (.v (.str ⟨#[c0]⟩)), some (.v (.int (0 + (i : Int)))), some (.v (.str w)), w8, v9, none])
        ⟨P5, x5, g5, w, w8, nw, lw, rfl⟩ (fun _ _ _ _ _ => trivial) ?_ ?_⟩
      · rintro i2 x σ h6 hx2 ⟨P6, x6, g6, w, w8, nw, lw, rfl⟩ N2 hN2
        obtain ⟨hi2, rfl⟩ := rangeD_get hx2
        have hi2 : i2 < 5 := by omega
        try simp -dsimp -implicitDefEqProofs only [↓ers, ↓clx_Moves, ↓clx_Behind, ↓rds17, ↓rds15, ↓rds14, ↓rds13, ↓rds1, ↓rds2, ↓rds3, ↓rds4, ↓rds5, ↓rds6, ↓rds7, ↓rds8, ↓rds9, ↓rds10, ↓rds11, List.set_cons_zero, List.set_cons_succ, ne_eq, not_false_eq_true, decide_eq_true_eq, Bool.or_true, Bool.or_false, Bool.true_or, Bool.false_or, Bool.and_true, Bool.true_and, Bool.and_false, Bool.false_and, Bool.not_true, Bool.not_false, reduceCtorEq, beq_self_eq_true, true_and, and_true, if_true, if_false, Bool.false_eq_true]
        refine ⟨by decide, ?_⟩
        refine draw_i P6 (by decide) (by decide) fun d h7 P7 x7 d0 d1 => ?_
        obtain ⟨c1, hc1, ec1⟩ := sgn_at (l := ("abcdefghijklmnopqrstuvwxyz" ++ "0123456789" : Str).cps.toList) (n := 36) (by decide) d0 d1
        have o1 := one c1 (azd c1 hc1)
        try simp -dsimp -implicitDefEqProofs only [↓ers, ↓clx_Moves, ↓clx_Behind, ↓rds17, ↓rds15, ↓rds14, ↓rds13, ↓rds1, ↓rds2, ↓rds3, ↓rds4, ↓rds5, ↓rds6, ↓rds7, ↓rds8, ↓rds9, ↓rds10, ↓rds11, List.set_cons_zero, List.set_cons_succ, ne_eq, not_false_eq_true, decide_eq_true_eq, Bool.or_true, Bool.or_false, Bool.true_or, Bool.false_or, Bool.and_true, Bool.true_and, Bool.and_false, Bool.false_and, Bool.not_true, Bool.not_false, reduceCtorEq, beq_self_eq_true, true_and, and_true, if_true, if_false, Bool.false_eq_true, ec1]
        have l2 : (w ++ ⟨#[c1]⟩ : Str).length = w.length + 1 := str_app_len _ _
        refine ⟨by decide, Nat.le_trans (show w.length + 1 ≤ 6 by omega) (by decide), hN2 _ _ ⟨P7, x6.trans x7, x7 _ _ np g6, _, _, ⟨⟨by rw [l2]; omega, by rw [l2]; omega, fun d hd => ?_⟩, ?_⟩, by rw [l2, lw]; omega, rfl⟩⟩
        · rw [str_app] at hd
          rcases List.mem_append.mp hd with k | k
          · exact nw.1.2.2 d k
          · exact o1.2.2 d k
        · obtain ⟨c5, r5, e5, m5⟩ := nw.2
          exact ⟨c5, r5 ++ [c1], by rw [str_app, e5]; rfl, m5⟩
      · rintro σ h6 ⟨P6, x6, g6, w, w8, nw, lw, rfl⟩
        have lw6 := nw.1.2.1
        try simp -dsimp -implicitDefEqProofs only [↓ers, ↓clx_Moves, ↓clx_Behind, ↓rds17, ↓rds15, ↓rds14, ↓rds13, ↓rds1, ↓rds2, ↓rds3, ↓rds4, ↓rds5, ↓rds6, ↓rds7, ↓rds8, ↓rds9, ↓rds10, ↓rds11, List.set_cons_zero, List.set_cons_succ, ne_eq, not_false_eq_true, decide_eq_true_eq, Bool.or_true, Bool.or_false, Bool.true_or, Bool.false_or, Bool.and_true, Bool.true_and, Bool.and_false, Bool.false_and, Bool.not_true, Bool.not_false, reduceCtorEq, beq_self_eq_true, true_and, and_true, if_true, if_false, Bool.false_eq_true, g6, inL_sD, flat_sD]
        refine ⟨rfl, dIte_by (fun b => ?_) fun b => ?_⟩
        · have lc : (cutS w none (some 5)).length ≤ 5 := cut5_len w
          have cn : ∀ c ∈ (cutS w none (some 5)).cps.toList, c ∈ nameSgn := fun c hc => nw.1.2.2 c (cutS_sub hc)
          have big : ∀ n, n ≤ 100 → n ≤ sizeLine := fun n hn => Nat.le_trans hn (by decide)
          try simp -dsimp -implicitDefEqProofs only [↓ers, ↓clx_Moves, ↓clx_Behind, ↓rds17, ↓rds15, ↓rds14, ↓rds13, ↓rds1, ↓rds2, ↓rds3, ↓rds4, ↓rds5, ↓rds6, ↓rds7, ↓rds8, ↓rds9, ↓rds10, ↓rds11, List.set_cons_zero, List.set_cons_succ, ne_eq, not_false_eq_true, decide_eq_true_eq, Bool.or_true, Bool.or_false, Bool.true_or, Bool.false_or, Bool.and_true, Bool.true_and, Bool.and_false, Bool.false_and, Bool.not_true, Bool.not_false, reduceCtorEq, beq_self_eq_true, true_and, and_true, if_true, if_false, Bool.false_eq_true]
          refine cmp_of (freshS (cutS w none (some 5)) ns) trivial (by decide) ?_ ?_
          · intro x hx S N' hS hN'
            obtain ⟨s1, hs1, rfl⟩ : ∃ s1 ∈ signs8, x = sD s1 := by
              have : x ∈ signs8.map sD := hx
              obtain ⟨s1, h1, e⟩ := List.mem_map.mp this
              exact ⟨s1, h1, e.symm⟩
            have l1 : s1.length = 1 := (by decide : ∀ s ∈ signs8, s.length = 1) s1 hs1
            try simp -dsimp -implicitDefEqProofs only [↓ers, ↓clx_Moves, ↓clx_Behind, ↓rds17, ↓rds15, ↓rds14, ↓rds13, ↓rds1, ↓rds2, ↓rds3, ↓rds4, ↓rds5, ↓rds6, ↓rds7, ↓rds8, ↓rds9, ↓rds10, ↓rds11, List.set_cons_zero, List.set_cons_succ, ne_eq, not_false_eq_true, decide_eq_true_eq, Bool.or_true, Bool.or_false, Bool.true_or, Bool.false_or, Bool.and_true, Bool.true_and, Bool.and_false, Bool.false_and, Bool.not_true, Bool.not_false, reduceCtorEq, beq_self_eq_true, true_and, and_true, if_true, if_false, Bool.false_eq_true, sD, g6, inL_sD, flat_sD]
            refine ⟨big _ (by omega), big _ (by omega), rfl, ?_⟩
            by_cases m : cutS w none (some 5) ++ s1 ∈ ns
            · refine dIte_neg (by simp [m]) ?_
              exact hN' (by show (if _ then _ else _) = _; rw [if_pos m])
            · refine dIte_pos (by simp [m]) ?_
              try simp -dsimp -implicitDefEqProofs only [↓ers, ↓clx_Moves, ↓clx_Behind, ↓rds17, ↓rds15, ↓rds14, ↓rds13, ↓rds1, ↓rds2, ↓rds3, ↓rds4, ↓rds5, ↓rds6, ↓rds7, ↓rds8, ↓rds9, ↓rds10, ↓rds11, List.set_cons_zero, List.set_cons_succ, ne_eq, not_false_eq_true, decide_eq_true_eq, Bool.or_true, Bool.or_false, Bool.true_or, Bool.false_or, Bool.and_true, Bool.true_and, Bool.and_false, Bool.false_and, Bool.not_true, Bool.not_false, reduceCtorEq, beq_self_eq_true, true_and, and_true, if_true, if_false, Bool.false_eq_true, sD]
              exact ⟨big _ (by omega), big _ (by omega), hS _ (by show (if _ then _ else _) = _; rw [if_neg m])⟩
          intro r hr
          have nr := (pool_ne P6 hr).1
          obtain ⟨fs, ef, f1, f2, f3⟩ := fresh_ok (w := w) (ns := ns) (by omega)
          rw [ef]
          have P7 := pool_keep (o := .lst (fs.map sD)) P6 hr
          have x7 := x6.new (o := .lst (fs.map sD)) hr
          have g7 : put h6 r (.lst (fs.map sD)) fa = some (.lst (ns.map sD)) := by
            have : fa ≠ r := fun z => by rw [z, hr] at g6; cases g6
            rw [put_ne this]; exact g6
          have gr : put h6 r (.lst (fs.map sD)) r = some (.lst (fs.map sD)) := put_same
          generalize put h6 r (.lst (fs.map sD)) = h7 at P7 x7 g7 gr
          try simp -dsimp -implicitDefEqProofs only [↓ers, ↓clx_Moves, ↓clx_Behind, ↓rds17, ↓rds15, ↓rds14, ↓rds13, ↓rds1, ↓rds2, ↓rds3, ↓rds4, ↓rds5, ↓rds6, ↓rds7, ↓rds8, ↓rds9, ↓rds10, ↓rds11, List.set_cons_zero, List.set_cons_succ, ne_eq, not_false_eq_true, decide_eq_true_eq, Bool.or_true, Bool.or_false, Bool.true_or, Bool.false_or, Bool.and_true, Bool.true_and, Bool.and_false, Bool.false_and, Bool.not_true, Bool.not_false, reduceCtorEq, beq_self_eq_true, true_and, and_true, if_true, if_false, Bool.false_eq_true, gr, List.length_map]
          refine draw_i P7 (by omega) (log_small (by omega) (by omega)) fun z h8 P8 x8 z0 z1 => ?_
          have gr8 := x8 _ _ nr gr
          obtain ⟨f, hf, ez⟩ := at_list z0 z1
          obtain ⟨f4, f5⟩ := f3 f hf
          try simp -dsimp -implicitDefEqProofs only [↓ers, ↓clx_Moves, ↓clx_Behind, ↓rds17, ↓rds15, ↓rds14, ↓rds13, ↓rds1, ↓rds2, ↓rds3, ↓rds4, ↓rds5, ↓rds6, ↓rds7, ↓rds8, ↓rds9, ↓rds10, ↓rds11, List.set_cons_zero, List.set_cons_succ, ne_eq, not_false_eq_true, decide_eq_true_eq, Bool.or_true, Bool.or_false, Bool.true_or, Bool.false_or, Bool.and_true, Bool.true_and, Bool.and_false, Bool.false_and, Bool.not_true, Bool.not_false, reduceCtorEq, beq_self_eq_true, true_and, and_true, if_true, if_false, Bool.false_eq_true, gr8, ez, sD]
          exact app D0 f h8 w8 _ (f5 nw) f4 P8 (x7.trans x8) (x8 _ _ np g7)
        · exact app D0 w h6 w8 v9 nw b P6 x6 g6
    try simp -dsimp -implicitDefEqProofs only [↓ers, ↓clx_Moves, ↓clx_Behind, ↓rds17, ↓rds15, ↓rds14, ↓rds13, ↓rds1, ↓rds2, ↓rds3, ↓rds4, ↓rds5, ↓rds6, ↓rds7, ↓rds8, ↓rds9, ↓rds10, ↓rds11, List.set_cons_zero, List.set_cons_succ, ne_eq, not_false_eq_true, decide_eq_true_eq, Bool.or_true, Bool.or_false, Bool.true_or, Bool.false_or, Bool.and_true, Bool.true_and, Bool.and_false, Bool.false_and, Bool.not_true, Bool.not_false, reduceCtorEq, beq_self_eq_true, true_and, and_true, if_true, if_false, Bool.false_eq_true]
    refine dIte_by (fun b => ?_) fun b => ?_
    · exact body (wN (fin Q) (dRet (dCB cTuple (dCons (dVar 3) dNil)) (fin Q))) _ h3 v8 ⟨one c0 (az c0 hc0), c0, [], rfl, hc0⟩ rfl P3 x3 g3
    · try simp -dsimp -implicitDefEqProofs only [↓ers, ↓clx_Moves, ↓clx_Behind, ↓rds17, ↓rds15, ↓rds14, ↓rds13, ↓rds1, ↓rds2, ↓rds3, ↓rds4, ↓rds5, ↓rds6, ↓rds7, ↓rds8, ↓rds9, ↓rds10, ↓rds11, List.set_cons_zero, List.set_cons_succ, ne_eq, not_false_eq_true, decide_eq_true_eq, Bool.or_true, Bool.or_false, Bool.true_or, Bool.false_or, Bool.and_true, Bool.true_and, Bool.and_false, Bool.false_and, Bool.not_true, Bool.not_false, reduceCtorEq, beq_self_eq_true, true_and, and_true, if_true, if_false, Bool.false_eq_true]
      refine draw_i P3 (by decide) (by decide) fun k3 h4 P4 x4 k30 k31 => ?_
      obtain ⟨c1, hc1, ec1⟩ := sgn_at (l := ("abcdefghijklmnopqrstuvwxyz" : Str).cps.toList) (n := 26) (by decide) k30 k31
      have b0 := body (wN (fin Q) (dRet (dCB cTuple (dCons (dVar 3) dNil)) (fin Q))) _ h4 v8 ⟨one c1 (az c1 hc1), c1, [], rfl, hc1⟩ rfl P4 (x3.trans x4) (x4 _ _ np g3)
      unfold rdn1 at b0
      try simp -dsimp -implicitDefEqProofs only [↓ers, ↓clx_Moves, ↓clx_Behind, ↓rds17, ↓rds15, ↓rds14, ↓rds13, ↓rds1, ↓rds2, ↓rds3, ↓rds4, ↓rds5, ↓rds6, ↓rds7, ↓rds8, ↓rds9, ↓rds10, ↓rds11, List.set_cons_zero, List.set_cons_succ, ne_eq, not_false_eq_true, decide_eq_true_eq, Bool.or_true, Bool.or_false, Bool.true_or, Bool.false_or, Bool.and_true, Bool.true_and, Bool.and_false, Bool.false_and, Bool.not_true, Bool.not_false, reduceCtorEq, beq_self_eq_true, true_and, and_true, if_true, if_false, Bool.false_eq_true] at b0
      try simp -dsimp -implicitDefEqProofs only [↓ers, ↓clx_Moves, ↓clx_Behind, ↓rds17, ↓rds15, ↓rds14, ↓rds13, ↓rds1, ↓rds2, ↓rds3, ↓rds4, ↓rds5, ↓rds6, ↓rds7, ↓rds8, ↓rds9, ↓rds10, ↓rds11, List.set_cons_zero, List.set_cons_succ, ne_eq, not_false_eq_true, decide_eq_true_eq, Bool.or_true, Bool.or_false, Bool.true_or, Bool.false_or, Bool.and_true, Bool.true_and, Bool.and_false, Bool.false_and, Bool.not_true, Bool.not_false, reduceCtorEq, beq_self_eq_true, true_and, and_true, if_true, if_false, Bool.false_eq_true, ec1]
      exact ⟨by decide, b0⟩
  · rintro σ h3 ⟨P3, x3, ns, g3, ln, nd, hn, v6, v7, v8, v9, rfl⟩
    try simp -dsimp -implicitDefEqProofs only [↓ers, ↓clx_Moves, ↓clx_Behind, ↓rds17, ↓rds15, ↓rds14, ↓rds13, ↓rds1, ↓rds2, ↓rds3, ↓rds4, ↓rds5, ↓rds6, ↓rds7, ↓rds8, ↓rds9, ↓rds10, ↓rds11, List.set_cons_zero, List.set_cons_succ, ne_eq, not_false_eq_true, decide_eq_true_eq, Bool.or_true, Bool.or_false, Bool.true_or, Bool.false_or, Bool.and_true, Bool.true_and, Bool.and_false, Bool.false_and, Bool.not_true, Bool.not_false, reduceCtorEq, beq_self_eq_true, true_and, and_true, if_true, if_false, Bool.false_eq_true, g3]
    have lr : ns.length = c := by rw [ln]; unfold rangeD; rw [List.length_map, List.length_range, Int.toNat_natCast]
    exact finR (ret ns h3 lr nd hn P3 x3)
end DL
namespace DL
open PySem L2
def nmAt (ns : List Str) (i : Nat) : Str := ns.getD i Str.empty
theorem nm_at {ns : List Str} {i : Nat} {j : Int} (h : i < ns.length) (e : j = (i : Int)) : atI (ns.map sD) j = some (sD (nmAt ns i)) := by
  refine atI_nat_of (i := i) ?_ e
  unfold nmAt
  rw [List.getElem?_map, List.getElem?_eq_getElem h, List.getD_eq_getElem?_getD, List.getElem?_eq_getElem h]; rfl
end DL
namespace DL
open PySem L2
def IsOrd (c : Nat) (o : List Nat) : Prop := o.Nodup ∧ (∀ i, i ∈ o ↔ i < c)
theorem IsOrd.len {c : Nat} {o : List Nat} (h : IsOrd c o) : o.length ≤ c := by
  have := nodup_len (l := o) (m := List.range c) h.1 fun x hx => List.mem_range.mpr ((h.2 x).mp hx)
  rw [List.length_range] at this
  exact this
def OrdsAt (h : Hd) (d : Addr) (os : List (List Nat)) : Prop := ∃ as : List Addr, h d = some (.lst (as.map fun a => .v (.ref a))) ∧ as.length = os.length ∧ ∀ (i : Nat) (o : List Nat), os[i]? = some o → ∃ a, as[i]? = some a ∧ h a = some (.lst (natD o))
theorem OrdsAt.up {h h' : Hd} {d : Addr} {os : List (List Nat)} (O : OrdsAt h d os) (s : Sub h h') : OrdsAt h' d os := by
  obtain ⟨as, g, l, k⟩ := O
  refine ⟨as, s _ _ g, l, fun i o e => ?_⟩
  obtain ⟨a, e1, e2⟩ := k i o e
  exact ⟨a, e1, s _ _ e2⟩
theorem OrdsAt.drop {h : Hd} {d r : Addr} {os : List (List Nat)} {as : List Addr} {m : Nat} (g : h d = some (.lst (as.map fun a => .v (.ref a)))) (la : as.length = os.length) (k : ∀ (i : Nat) (o : List Nat), os[i]? = some o → ∃ a, as[i]? = some a ∧ h a = some (.lst (natD o))) (hr : h r = none) :
    OrdsAt (put h r (.lst ((as.drop m).map fun a => .v (.ref a)))) r (os.drop m) := by
  refine ⟨as.drop m, put_same, by rw [List.length_drop, List.length_drop, la], fun i o e => ?_⟩
  rw [List.getElem?_drop] at e
  obtain ⟨a, e1, e2⟩ := k _ o e
  exact ⟨a, by rw [List.getElem?_drop]; exact e1, Sub.put hr _ _ e2⟩
end DL
namespace DL
open PySem L2
def SubL (L : List Addr) (h h' : Hd) : Prop := ∀ a u, a ∉ L → h a = some u → h' a = some u
theorem SubL.refl (L : List Addr) (h : Hd) : SubL L h h := fun _ _ _ e => e
theorem SubL.trans {L : List Addr} {h h1 h2 : Hd} (a : SubL L h h1) (b : SubL L h1 h2) : SubL L h h2 := fun x u n e => b x u n (a x u n e)
theorem SubL.mono {L M : List Addr} {h h1 : Hd} (a : SubL L h h1) (m : ∀ x ∈ L, x ∈ M) : SubL M h h1 := fun x u n e => a x u (fun k => n (m x k)) e
theorem SubL.up {L : List Addr} {h h1 h2 : Hd} (a : SubL L h h1) (b : Sub h1 h2) : SubL L h h2 := fun x u n e => b x u (a x u n e)
theorem SubL.set {L : List Addr} {h h1 : Hd} (a : SubL L h h1) {p : Addr} {o : O} (m : p ∈ L) : SubL L h (put h1 p o) := fun x u n e => by
  have : x ≠ p := fun z => n (z ▸ m)
  rw [put_ne this]; exact a x u n e
theorem SubL.sub {L : List Addr} {h h1 : Hd} (a : SubL L h h1) (m : ∀ x ∈ L, h x = none) : Sub h h1 := fun x u e => a x u (fun k => by rw [m x k] at e; cases e) e
def nx (ws : List Str) (at' : Nat) : Str := ws.getD at' Str.empty
theorem drop_nx {ws : List Str} {a : Nat} (h : a < ws.length) : ws.drop a = nx ws a :: ws.drop (a + 1) := by
  rw [List.drop_eq_getElem_cons h]
  unfold nx
  rw [List.getD_eq_getElem?_getD, List.getElem?_eq_getElem h]; rfl
theorem fk_FigureWords_kind {y0 y1 y2 y3 y4 : D} : List.lookup ("kind" : Str) [(("kind" : Str), y0), (("names" : Str), y1), (("words" : Str), y2), (("at" : Str), y3), (("letters" : Str), y4)] = some y0 := by simp [List.lookup, show (("kind" : Str) == ("names" : Str)) = false from by decide +kernel, show (("kind" : Str) == ("words" : Str)) = false from by decide +kernel, show (("kind" : Str) == ("at" : Str)) = false from by decide +kernel, show (("kind" : Str) == ("letters" : Str)) = false from by decide +kernel]
theorem fk_FigureWords_names {y0 y1 y2 y3 y4 : D} : List.lookup ("names" : Str) [(("kind" : Str), y0), (("names" : Str), y1), (("words" : Str), y2), (("at" : Str), y3), (("letters" : Str), y4)] = some y1 := by simp [List.lookup, show (("names" : Str) == ("kind" : Str)) = false from by decide +kernel, show (("names" : Str) == ("words" : Str)) = false from by decide +kernel, show (("names" : Str) == ("at" : Str)) = false from by decide +kernel, show (("names" : Str) == ("letters" : Str)) = false from by decide +kernel]
theorem fk_FigureWords_words {y0 y1 y2 y3 y4 : D} : List.lookup ("words" : Str) [(("kind" : Str), y0), (("names" : Str), y1), (("words" : Str), y2), (("at" : Str), y3), (("letters" : Str), y4)] = some y2 := by simp [List.lookup, show (("words" : Str) == ("kind" : Str)) = false from by decide +kernel, show (("words" : Str) == ("names" : Str)) = false from by decide +kernel, show (("words" : Str) == ("at" : Str)) = false from by decide +kernel, show (("words" : Str) == ("letters" : Str)) = false from by decide +kernel]
theorem fk_FigureWords_at {y0 y1 y2 y3 y4 : D} : List.lookup ("at" : Str) [(("kind" : Str), y0), (("names" : Str), y1), (("words" : Str), y2), (("at" : Str), y3), (("letters" : Str), y4)] = some y3 := by simp [List.lookup, show (("at" : Str) == ("kind" : Str)) = false from by decide +kernel, show (("at" : Str) == ("names" : Str)) = false from by decide +kernel, show (("at" : Str) == ("words" : Str)) = false from by decide +kernel, show (("at" : Str) == ("letters" : Str)) = false from by decide +kernel]
theorem fk_FigureWords_letters {y0 y1 y2 y3 y4 : D} : List.lookup ("letters" : Str) [(("kind" : Str), y0), (("names" : Str), y1), (("words" : Str), y2), (("at" : Str), y3), (("letters" : Str), y4)] = some y4 := by simp [List.lookup, show (("letters" : Str) == ("kind" : Str)) = false from by decide +kernel, show (("letters" : Str) == ("names" : Str)) = false from by decide +kernel, show (("letters" : Str) == ("words" : Str)) = false from by decide +kernel, show (("letters" : Str) == ("at" : Str)) = false from by decide +kernel]
theorem ln_FigureWords_0 : (([] : List (Str × D)).length < 1000) = True := by simp
theorem ln_FigureWords_1 {y0 : D} : ([(("kind" : Str), y0)].length < 1000) = True := by simp
theorem ln_FigureWords_2 {y0 y1 : D} : ([(("kind" : Str), y0), (("names" : Str), y1)].length < 1000) = True := by simp
theorem ln_FigureWords_3 {y0 y1 y2 : D} : ([(("kind" : Str), y0), (("names" : Str), y1), (("words" : Str), y2)].length < 1000) = True := by simp
theorem ln_FigureWords_4 {y0 y1 y2 y3 : D} : ([(("kind" : Str), y0), (("names" : Str), y1), (("words" : Str), y2), (("at" : Str), y3)].length < 1000) = True := by simp
theorem ln_FigureWords_5 {y0 y1 y2 y3 y4 : D} : ([(("kind" : Str), y0), (("names" : Str), y1), (("words" : Str), y2), (("at" : Str), y3), (("letters" : Str), y4)].length < 1000) = True := by simp
theorem nm_FigureWords_refuse {y0 y1 y2 y3 y4 : D} : List.lookup ("refuse" : Str) [(("kind" : Str), y0), (("names" : Str), y1), (("words" : Str), y2), (("at" : Str), y3), (("letters" : Str), y4)] = none := by simp [List.lookup, show (("refuse" : Str) == ("kind" : Str)) = false from by decide +kernel, show (("refuse" : Str) == ("names" : Str)) = false from by decide +kernel, show (("refuse" : Str) == ("words" : Str)) = false from by decide +kernel, show (("refuse" : Str) == ("at" : Str)) = false from by decide +kernel, show (("refuse" : Str) == ("letters" : Str)) = false from by decide +kernel]
theorem nm_FigureWords_next {y0 y1 y2 y3 y4 : D} : List.lookup ("next" : Str) [(("kind" : Str), y0), (("names" : Str), y1), (("words" : Str), y2), (("at" : Str), y3), (("letters" : Str), y4)] = none := by simp [List.lookup, show (("next" : Str) == ("kind" : Str)) = false from by decide +kernel, show (("next" : Str) == ("names" : Str)) = false from by decide +kernel, show (("next" : Str) == ("words" : Str)) = false from by decide +kernel, show (("next" : Str) == ("at" : Str)) = false from by decide +kernel, show (("next" : Str) == ("letters" : Str)) = false from by decide +kernel]
theorem nm_FigureWords_read_over {y0 y1 y2 y3 y4 : D} : List.lookup ("read_over" : Str) [(("kind" : Str), y0), (("names" : Str), y1), (("words" : Str), y2), (("at" : Str), y3), (("letters" : Str), y4)] = none := by simp [List.lookup, show (("read_over" : Str) == ("kind" : Str)) = false from by decide +kernel, show (("read_over" : Str) == ("names" : Str)) = false from by decide +kernel, show (("read_over" : Str) == ("words" : Str)) = false from by decide +kernel, show (("read_over" : Str) == ("at" : Str)) = false from by decide +kernel, show (("read_over" : Str) == ("letters" : Str)) = false from by decide +kernel]
theorem nm_FigureWords_read_moment {y0 y1 y2 y3 y4 : D} : List.lookup ("read_moment" : Str) [(("kind" : Str), y0), (("names" : Str), y1), (("words" : Str), y2), (("at" : Str), y3), (("letters" : Str), y4)] = none := by simp [List.lookup, show (("read_moment" : Str) == ("kind" : Str)) = false from by decide +kernel, show (("read_moment" : Str) == ("names" : Str)) = false from by decide +kernel, show (("read_moment" : Str) == ("words" : Str)) = false from by decide +kernel, show (("read_moment" : Str) == ("at" : Str)) = false from by decide +kernel, show (("read_moment" : Str) == ("letters" : Str)) = false from by decide +kernel]
theorem nm_FigureWords_read_moments {y0 y1 y2 y3 y4 : D} : List.lookup ("read_moments" : Str) [(("kind" : Str), y0), (("names" : Str), y1), (("words" : Str), y2), (("at" : Str), y3), (("letters" : Str), y4)] = none := by simp [List.lookup, show (("read_moments" : Str) == ("kind" : Str)) = false from by decide +kernel, show (("read_moments" : Str) == ("names" : Str)) = false from by decide +kernel, show (("read_moments" : Str) == ("words" : Str)) = false from by decide +kernel, show (("read_moments" : Str) == ("at" : Str)) = false from by decide +kernel, show (("read_moments" : Str) == ("letters" : Str)) = false from by decide +kernel]
theorem nm_FigureWords_read {y0 y1 y2 y3 y4 : D} : List.lookup ("read" : Str) [(("kind" : Str), y0), (("names" : Str), y1), (("words" : Str), y2), (("at" : Str), y3), (("letters" : Str), y4)] = none := by simp [List.lookup, show (("read" : Str) == ("kind" : Str)) = false from by decide +kernel, show (("read" : Str) == ("names" : Str)) = false from by decide +kernel, show (("read" : Str) == ("words" : Str)) = false from by decide +kernel, show (("read" : Str) == ("at" : Str)) = false from by decide +kernel, show (("read" : Str) == ("letters" : Str)) = false from by decide +kernel]
def clx_FigureWords := (And.intro @fk_FigureWords_kind (And.intro @fk_FigureWords_names (And.intro @fk_FigureWords_words (And.intro @fk_FigureWords_at (And.intro @fk_FigureWords_letters (And.intro @ln_FigureWords_0 (And.intro @ln_FigureWords_1 (And.intro @ln_FigureWords_2 (And.intro @ln_FigureWords_3 (And.intro @ln_FigureWords_4 (And.intro @ln_FigureWords_5 (And.intro @nm_FigureWords_refuse (And.intro @nm_FigureWords_next (And.intro @nm_FigureWords_read_over (And.intro @nm_FigureWords_read_moment (And.intro @nm_FigureWords_read_moments (And.intro @nm_FigureWords_read trivial)))))))))))))))))
structure FwAt (h : Hd) (s wa la : Addr) (kind : Str) (ns ws : List Str) (a : Nat) (ls : List Nat) : Prop where
  ob : h s = some (.ins "FigureWords" [("kind", .v (.str kind)), ("names", .t (ns.map sD)), ("words", .v (.ref wa)), ("at", .v (.int (a : Int))), ("letters", .v (.ref la))])
  wo : h wa = some (.lst (ws.map sD))
  le : h la = some (.lst (natD ls))
  ne : wa ≠ la
  wl : ws.length ≤ 100000
  al : a ≤ ws.length
theorem FwAt.up {h h' : Hd} {s wa la : Addr} {kind : Str} {ns ws : List Str} {a : Nat} {ls : List Nat} (F : FwAt h s wa la kind ns ws a ls) (u : Sub h h') : FwAt h' s wa la kind ns ws a ls := ⟨u _ _ F.ob, u _ _ F.wo, u _ _ F.le, F.ne, F.wl, F.al⟩
theorem FwAt.sw {h : Hd} {s wa la : Addr} {kind : Str} {ns ws : List Str} {a : Nat} {ls : List Nat} (F : FwAt h s wa la kind ns ws a ls) : s ≠ wa ∧ s ≠ la := by
  refine ⟨fun z => ?_, fun z => ?_⟩
  · have := F.ob
    rw [z, F.wo] at this
    cases this
  · have := F.ob
    rw [z, F.le] at this
    cases this
theorem FwAt.step {h h' : Hd} {s wa la : Addr} {kind : Str} {ns ws : List Str} {a b : Nat} {ls : List Nat} (F : FwAt h s wa la kind ns ws a ls) (hb : b ≤ ws.length) :
    FwAt (put h s (.ins "FigureWords" [("kind", .v (.str kind)), ("names", .t (ns.map sD)), ("words", .v (.ref wa)), ("at", .v (.int (b : Int))), ("letters", .v (.ref la))])) s wa la kind ns ws b ls :=
  ⟨put_same, by rw [put_ne F.sw.1.symm]; exact F.wo, by rw [put_ne F.sw.2.symm]; exact F.le, F.ne, F.wl, hb⟩
theorem FwAt.app {h : Hd} {s wa la : Addr} {kind : Str} {ns ws : List Str} {a : Nat} {ls : List Nat} (F : FwAt h s wa la kind ns ws a ls) (x : Nat) :
    FwAt (put h la (.lst (natD ls ++ [.v (.int (x : Int))]))) s wa la kind ns ws a (ls ++ [x]) :=
  ⟨by rw [put_ne F.sw.2]; exact F.ob, by rw [put_ne F.ne]; exact F.wo, by rw [put_same, nat_app]; rfl, F.ne, F.wl, F.al⟩
theorem FwAt.put {h : Hd} {s wa la : Addr} {kind : Str} {ns ws : List Str} {a : Nat} {ls : List Nat} (F : FwAt h s wa la kind ns ws a ls) {p : Addr} {o : O} (n1 : s ≠ p) (n2 : wa ≠ p) (n3 : la ≠ p) : FwAt (put h p o) s wa la kind ns ws a ls :=
  ⟨by rw [put_ne n1]; exact F.ob, by rw [put_ne n2]; exact F.wo, by rw [put_ne n3]; exact F.le, F.ne, F.wl, F.al⟩
theorem FwAt.nw {h : Hd} {s wa la : Addr} {kind : Str} {ns ws : List Str} {a : Nat} {ls : List Nat} (F : FwAt h s wa la kind ns ws a ls) {p : Addr} (n : h p = none) : s ≠ p ∧ wa ≠ p ∧ la ≠ p := by
  refine ⟨fun z => ?_, fun z => ?_, fun z => ?_⟩
  · have := F.ob; rw [z, n] at this; cases this
  · have := F.wo; rw [z, n] at this; cases this
  · have := F.le; rw [z, n] at this; cases this
def FndOk (c : Nat) (f : List Nat) : Prop := f.Nodup ∧ ∀ n ∈ f, n < c
theorem FndOk.len {c : Nat} {f : List Nat} (F : FndOk c f) : f.length ≤ c := by
  have := nodup_len (l := f) (m := List.range c) F.1 fun x hx => List.mem_range.mpr (F.2 x hx)
  rw [List.length_range] at this
  exact this
end DL
namespace DL
open PySem L2
end DL
namespace DL
open PySem L2
end DL
namespace DL
open PySem L2
def c_MOST_SIGNS : D := .v (.int 6)
def c_LETTERS : D := .v (.str "abcdefghijklmnopqrstuvwxyz")
def c_FIGURES : D := .v (.str "0123456789")
theorem strIn_cp (c : Nat) (s : Str) : strIn ⟨#[c]⟩ s = decide (c ∈ s.cps.toList) := by
  unfold strIn
  have := SX.in_one s.cps.toList c
  rw [SX.S_tl] at this
  exact this
def isLt (c : Nat) : Bool := strIn ⟨#[c]⟩ "abcdefghijklmnopqrstuvwxyz"
def isFg (c : Nat) : Bool := strIn ⟨#[c]⟩ "0123456789"
theorem sgn_facts (c : Nat) : strIn ⟨#[c]⟩ "abcdefghijklmnopqrstuvwxyz0123456789" = (isLt c || isFg c) ∧ (isLt c && isFg c) = false := by
  have e : ("abcdefghijklmnopqrstuvwxyz0123456789" : Str).cps.toList = ("abcdefghijklmnopqrstuvwxyz" : Str).cps.toList ++ ("0123456789" : Str).cps.toList := by decide
  have d : ∀ c ∈ ("abcdefghijklmnopqrstuvwxyz" : Str).cps.toList, c ∉ ("0123456789" : Str).cps.toList := by decide
  unfold isLt isFg
  rw [strIn_cp, strIn_cp, strIn_cp, e]
  refine ⟨?_, ?_⟩
  · rw [← Bool.decide_or]
    exact decide_eq_decide.mpr List.mem_append
  · rw [← Bool.decide_and]
    exact decide_eq_false fun h => d c h.1 h.2
def nameB (w : Str) : Bool := decide (1 ≤ w.length ∧ w.length ≤ 6) && (match w.cps.toList with | c :: _ => isLt c | [] => false) && w.cps.toList.all fun c => isLt c || isFg c
theorem strX_ext {a b : Str} (h : a.cps.toList = b.cps.toList) : a = b := by
  obtain ⟨⟨x⟩⟩ := a
  obtain ⟨⟨y⟩⟩ := b
  have : x = y := h
  rw [this]
theorem strX_cons {w : Str} (ne : ¬ w = "") : ∃ c r, w.cps.toList = c :: r := by
  cases e : w.cps.toList with
  | nil => exact absurd (strX_ext (by rw [e]; decide)) ne
  | cons c r => exact ⟨c, r, rfl⟩
theorem nameX_cons {w : Str} {c : Nat} {r : List Nat} (e : w.cps.toList = c :: r) : nameB w = (decide (1 ≤ w.length ∧ w.length ≤ 6) && isLt c && w.cps.toList.all fun c => isLt c || isFg c) := by
  unfold nameB
  rw [e]
def sgnOkD : D → Bool
  | .v (.str z) => strIn z "abcdefghijklmnopqrstuvwxyz" || strIn z "0123456789"
  | _ => false
theorem fmX_len (P : D → Bool) : ∀ l : List D, decide (((l.filterMap fun x => if P x then none else some x).length : Int) = 0) = l.all P
  | [] => rfl
  | x :: r => by
    rw [List.filterMap_cons, List.all_cons]
    cases h : P x with
    | true => rw [if_pos rfl, Bool.true_and]; exact fmX_len P r
    | false =>
      rw [if_neg (by simp)]
      show decide ((((_ : List D).length + 1 : Nat) : Int) = 0) = false
      exact decide_eq_false (by omega)
def sp_is_name : SpD := fun ds h Q _ => ds.length = 1 ∧ ∃ w : Str, ds = [.v (.str w)] ∧ w.length ≤ 64 ∧ Q (.v (.bl (nameB w))) h
def rd_is_name (E : ER) : SD :=
  dSeq (dIfS (dOr (dTest (d2 pEqA (dVar 0) (dC (.v (.str ""))))) (dOr (dTest (d2 pGt (dCB cLen (dCons (dVar 0) (dNil))) (dC c_MOST_SIGNS))) (dTest (d2 pNotMem (d2 pIt (dVar 0) (dC (.v (.int 0)))) (dC c_LETTERS))))) (dRet (dC (.v (.bl false)))) (dNext))
  (dRet (d2 pEqA (dCB cLen (dCons (dLc (iAnyD (dVar 0)) (nG 1) (dAnd (dTest (d2 pNotMem (dVar 1) (dC c_LETTERS))) (dTest (d2 pNotMem (dVar 1) (dC c_FIGURES)))) (dVar 1) [1]) (dNil))) (dC (.v (.int 0)))))
abbrev N_is_name : List Str := ["word", "sign"]
theorem ok_is_name : ∀ ds h Q E, sp_is_name ds h Q E → rd_is_name (fun x _ h' => E x h') (fin Q) (startD N_is_name ds) h := by
  rintro ds h Q E ⟨_, w, rfl, hl, ret⟩
  show rd_is_name _ _ [some (.v (.str w)), none] h
  unfold rd_is_name
  have lw : w.length ≤ sizeLine := Nat.le_trans hl (by decide)
  try simp -dsimp -implicitDefEqProofs only [↓clx_FigureWords, ↓ers, ↓clx_Moves, ↓clx_Behind, ↓rds17, ↓rds15, ↓rds14, ↓rds13, ↓rds1, ↓rds2, ↓rds3, ↓rds4, ↓rds5, ↓rds6, ↓rds7, ↓rds8, ↓rds9, ↓rds10, ↓rds11, List.set_cons_zero, List.set_cons_succ, ne_eq, not_false_eq_true, decide_eq_true_eq, Bool.or_true, Bool.or_false, Bool.true_or, Bool.false_or, Bool.and_true, Bool.true_and, Bool.and_false, Bool.false_and, Bool.not_true, Bool.not_false, reduceCtorEq, beq_self_eq_true, true_and, and_true, if_true, if_false, Bool.false_eq_true, c_MOST_SIGNS, c_LETTERS, c_FIGURES]
  refine dIte_by (fun e => ?_) fun ne => ?_
  · subst e
    refine dIte_pos rfl ?_
    try simp -dsimp -implicitDefEqProofs only [↓clx_FigureWords, ↓ers, ↓clx_Moves, ↓clx_Behind, ↓rds17, ↓rds15, ↓rds14, ↓rds13, ↓rds1, ↓rds2, ↓rds3, ↓rds4, ↓rds5, ↓rds6, ↓rds7, ↓rds8, ↓rds9, ↓rds10, ↓rds11, List.set_cons_zero, List.set_cons_succ, ne_eq, not_false_eq_true, decide_eq_true_eq, Bool.or_true, Bool.or_false, Bool.true_or, Bool.false_or, Bool.and_true, Bool.true_and, Bool.and_false, Bool.false_and, Bool.not_true, Bool.not_false, reduceCtorEq, beq_self_eq_true, true_and, and_true, if_true, if_false, Bool.false_eq_true]
    exact finR ret
  obtain ⟨c, r, ew⟩ := strX_cons ne
  have e0 : atI w.cps.toList 0 = some c := by rw [ew]; exact atI_nat (j := 0) rfl
  have hn := nameX_cons ew
  rw [hn] at ret
  have h1 : 1 ≤ w.length := by rw [← str_len, ew, List.length_cons]; omega
  try simp -dsimp -implicitDefEqProofs only [↓clx_FigureWords, ↓ers, ↓clx_Moves, ↓clx_Behind, ↓rds17, ↓rds15, ↓rds14, ↓rds13, ↓rds1, ↓rds2, ↓rds3, ↓rds4, ↓rds5, ↓rds6, ↓rds7, ↓rds8, ↓rds9, ↓rds10, ↓rds11, List.set_cons_zero, List.set_cons_succ, ne_eq, not_false_eq_true, decide_eq_true_eq, Bool.or_true, Bool.or_false, Bool.true_or, Bool.false_or, Bool.and_true, Bool.true_and, Bool.and_false, Bool.false_and, Bool.not_true, Bool.not_false, reduceCtorEq, beq_self_eq_true, true_and, and_true, if_true, if_false, Bool.false_eq_true, c_MOST_SIGNS]
  refine ⟨lw, dIte_by (fun k => ?_) fun k => ?_⟩
  · refine dIte_pos rfl ?_
    rw [decide_eq_false (by omega), Bool.false_and, Bool.false_and] at ret
    try simp -dsimp -implicitDefEqProofs only [↓clx_FigureWords, ↓ers, ↓clx_Moves, ↓clx_Behind, ↓rds17, ↓rds15, ↓rds14, ↓rds13, ↓rds1, ↓rds2, ↓rds3, ↓rds4, ↓rds5, ↓rds6, ↓rds7, ↓rds8, ↓rds9, ↓rds10, ↓rds11, List.set_cons_zero, List.set_cons_succ, ne_eq, not_false_eq_true, decide_eq_true_eq, Bool.or_true, Bool.or_false, Bool.true_or, Bool.false_or, Bool.and_true, Bool.true_and, Bool.and_false, Bool.false_and, Bool.not_true, Bool.not_false, reduceCtorEq, beq_self_eq_true, true_and, and_true, if_true, if_false, Bool.false_eq_true]
    exact finR ret
  have k6 : w.length ≤ 6 := by omega
  rw [decide_eq_true ⟨h1, k6⟩, Bool.true_and] at ret
  try simp -dsimp -implicitDefEqProofs only [↓clx_FigureWords, ↓ers, ↓clx_Moves, ↓clx_Behind, ↓rds17, ↓rds15, ↓rds14, ↓rds13, ↓rds1, ↓rds2, ↓rds3, ↓rds4, ↓rds5, ↓rds6, ↓rds7, ↓rds8, ↓rds9, ↓rds10, ↓rds11, List.set_cons_zero, List.set_cons_succ, ne_eq, not_false_eq_true, decide_eq_true_eq, Bool.or_true, Bool.or_false, Bool.true_or, Bool.false_or, Bool.and_true, Bool.true_and, Bool.and_false, Bool.false_and, Bool.not_true, Bool.not_false, reduceCtorEq, beq_self_eq_true, true_and, and_true, if_true, if_false, Bool.false_eq_true, c_LETTERS, e0]
  refine ⟨lw, ?_⟩
  have eL : strIn ⟨#[c]⟩ "abcdefghijklmnopqrstuvwxyz" = isLt c := rfl
  rw [eL]
  cases hL : isLt c with
  | false =>
    rw [hL, Bool.false_and] at ret
    try simp -dsimp -implicitDefEqProofs only [↓clx_FigureWords, ↓ers, ↓clx_Moves, ↓clx_Behind, ↓rds17, ↓rds15, ↓rds14, ↓rds13, ↓rds1, ↓rds2, ↓rds3, ↓rds4, ↓rds5, ↓rds6, ↓rds7, ↓rds8, ↓rds9, ↓rds10, ↓rds11, List.set_cons_zero, List.set_cons_succ, ne_eq, not_false_eq_true, decide_eq_true_eq, Bool.or_true, Bool.or_false, Bool.true_or, Bool.false_or, Bool.and_true, Bool.true_and, Bool.and_false, Bool.false_and, Bool.not_true, Bool.not_false, reduceCtorEq, beq_self_eq_true, true_and, and_true, if_true, if_false, Bool.false_eq_true]
    exact finR ret
  | true =>
    rw [hL, Bool.true_and] at ret
    try simp -dsimp -implicitDefEqProofs only [↓clx_FigureWords, ↓ers, ↓clx_Moves, ↓clx_Behind, ↓rds17, ↓rds15, ↓rds14, ↓rds13, ↓rds1, ↓rds2, ↓rds3, ↓rds4, ↓rds5, ↓rds6, ↓rds7, ↓rds8, ↓rds9, ↓rds10, ↓rds11, List.set_cons_zero, List.set_cons_succ, ne_eq, not_false_eq_true, decide_eq_true_eq, Bool.or_true, Bool.or_false, Bool.true_or, Bool.false_or, Bool.and_true, Bool.true_and, Bool.and_false, Bool.false_and, Bool.not_true, Bool.not_false, reduceCtorEq, beq_self_eq_true, true_and, and_true, if_true, if_false, Bool.false_eq_true]
    refine cmp_of (fun x => if sgnOkD x then none else some x) trivial (by unfold chars; rw [List.length_map, str_len]; omega) ?_ ?_
    · intro x hx S N hS hN
      obtain ⟨d, hd, rfl⟩ := List.mem_map.mp hx
      have eL : strIn ⟨#[d]⟩ "abcdefghijklmnopqrstuvwxyz" = isLt d := rfl
      have eF : strIn ⟨#[d]⟩ "0123456789" = isFg d := rfl
      have ok : sgnOkD (.v (.str ⟨#[d]⟩)) = (isLt d || isFg d) := rfl
      rw [ok] at hS hN
      try simp -dsimp -implicitDefEqProofs only [↓clx_FigureWords, ↓ers, ↓clx_Moves, ↓clx_Behind, ↓rds17, ↓rds15, ↓rds14, ↓rds13, ↓rds1, ↓rds2, ↓rds3, ↓rds4, ↓rds5, ↓rds6, ↓rds7, ↓rds8, ↓rds9, ↓rds10, ↓rds11, List.set_cons_zero, List.set_cons_succ, ne_eq, not_false_eq_true, decide_eq_true_eq, Bool.or_true, Bool.or_false, Bool.true_or, Bool.false_or, Bool.and_true, Bool.true_and, Bool.and_false, Bool.false_and, Bool.not_true, Bool.not_false, reduceCtorEq, beq_self_eq_true, true_and, and_true, if_true, if_false, Bool.false_eq_true, c_LETTERS, c_FIGURES, eL, eF]
      cases hl : isLt d with
      | true =>
        try simp -dsimp -implicitDefEqProofs only [↓clx_FigureWords, ↓ers, ↓clx_Moves, ↓clx_Behind, ↓rds17, ↓rds15, ↓rds14, ↓rds13, ↓rds1, ↓rds2, ↓rds3, ↓rds4, ↓rds5, ↓rds6, ↓rds7, ↓rds8, ↓rds9, ↓rds10, ↓rds11, List.set_cons_zero, List.set_cons_succ, ne_eq, not_false_eq_true, decide_eq_true_eq, Bool.or_true, Bool.or_false, Bool.true_or, Bool.false_or, Bool.and_true, Bool.true_and, Bool.and_false, Bool.false_and, Bool.not_true, Bool.not_false, reduceCtorEq, beq_self_eq_true, true_and, and_true, if_true, if_false, Bool.false_eq_true]
        exact hN (by rw [hl, Bool.true_or]; rfl)
      | false =>
        rw [hl, Bool.false_or] at hS hN
        try simp -dsimp -implicitDefEqProofs only [↓clx_FigureWords, ↓ers, ↓clx_Moves, ↓clx_Behind, ↓rds17, ↓rds15, ↓rds14, ↓rds13, ↓rds1, ↓rds2, ↓rds3, ↓rds4, ↓rds5, ↓rds6, ↓rds7, ↓rds8, ↓rds9, ↓rds10, ↓rds11, List.set_cons_zero, List.set_cons_succ, ne_eq, not_false_eq_true, decide_eq_true_eq, Bool.or_true, Bool.or_false, Bool.true_or, Bool.false_or, Bool.and_true, Bool.true_and, Bool.and_false, Bool.false_and, Bool.not_true, Bool.not_false, reduceCtorEq, beq_self_eq_true, true_and, and_true, if_true, if_false, Bool.false_eq_true, c_FIGURES, eF]
        cases hf : isFg d with
        | true =>
          try simp -dsimp -implicitDefEqProofs only [↓clx_FigureWords, ↓ers, ↓clx_Moves, ↓clx_Behind, ↓rds17, ↓rds15, ↓rds14, ↓rds13, ↓rds1, ↓rds2, ↓rds3, ↓rds4, ↓rds5, ↓rds6, ↓rds7, ↓rds8, ↓rds9, ↓rds10, ↓rds11, List.set_cons_zero, List.set_cons_succ, ne_eq, not_false_eq_true, decide_eq_true_eq, Bool.or_true, Bool.or_false, Bool.true_or, Bool.false_or, Bool.and_true, Bool.true_and, Bool.and_false, Bool.false_and, Bool.not_true, Bool.not_false, reduceCtorEq, beq_self_eq_true, true_and, and_true, if_true, if_false, Bool.false_eq_true]
          exact hN (by rw [hf]; rfl)
        | false =>
          try simp -dsimp -implicitDefEqProofs only [↓clx_FigureWords, ↓ers, ↓clx_Moves, ↓clx_Behind, ↓rds17, ↓rds15, ↓rds14, ↓rds13, ↓rds1, ↓rds2, ↓rds3, ↓rds4, ↓rds5, ↓rds6, ↓rds7, ↓rds8, ↓rds9, ↓rds10, ↓rds11, List.set_cons_zero, List.set_cons_succ, ne_eq, not_false_eq_true, decide_eq_true_eq, Bool.or_true, Bool.or_false, Bool.true_or, Bool.false_or, Bool.and_true, Bool.true_and, Bool.and_false, Bool.false_and, Bool.not_true, Bool.not_false, reduceCtorEq, beq_self_eq_true, true_and, and_true, if_true, if_false, Bool.false_eq_true]
          exact hS _ (by rw [hf]; rfl)
    · intro l hl2
      try simp -dsimp -implicitDefEqProofs only [↓clx_FigureWords, ↓ers, ↓clx_Moves, ↓clx_Behind, ↓rds17, ↓rds15, ↓rds14, ↓rds13, ↓rds1, ↓rds2, ↓rds3, ↓rds4, ↓rds5, ↓rds6, ↓rds7, ↓rds8, ↓rds9, ↓rds10, ↓rds11, List.set_cons_zero, List.set_cons_succ, ne_eq, not_false_eq_true, decide_eq_true_eq, Bool.or_true, Bool.or_false, Bool.true_or, Bool.false_or, Bool.and_true, Bool.true_and, Bool.and_false, Bool.false_and, Bool.not_true, Bool.not_false, reduceCtorEq, beq_self_eq_true, true_and, and_true, if_true, if_false, Bool.false_eq_true]
      rw [fmX_len]
      have : (chars w).all sgnOkD = w.cps.toList.all fun c => isLt c || isFg c := by
        unfold chars
        rw [List.all_map]
        rfl
      rw [this]
      exact finI (Sub.put hl2) ret
def sp_law_is_name : SpD := fun ds h Q _ => ds.length = 1 ∧ ∃ w : Str, ds = [.v (.str w)] ∧ w.length ≤ 64 ∧ Q (.v (.bl (nameB w))) h
def rd_law_is_name (E : ER) : SD :=
  dSeq (dIfS (dOr (dTest (d2 pLt (dCB cLen (dCons (dVar 0) (dNil))) (dC (.v (.int 1))))) (dOr (dTest (d2 pGt (dCB cLen (dCons (dVar 0) (dNil))) (dC (.v (.int 6))))) (dTest (d2 pMem (d2 pIt (dVar 0) (dC (.v (.int 0)))) (dC (.v (.str "0123456789"))))))) (dRet (dC (.v (.bl false)))) (dNext))
  (dSeq (dFor (iAnyD (dVar 0)) (nG 1) (dIfS (dTest (d2 pNotMem (dVar 1) (dC (.v (.str "abcdefghijklmnopqrstuvwxyz0123456789"))))) (dRet (dC (.v (.bl false)))) (dNext)))
  (dRet (dC (.v (.bl true)))))
abbrev N_law_is_name : List Str := ["word", "sign"]
theorem ok_law_is_name : ∀ ds h Q E, sp_law_is_name ds h Q E → rd_law_is_name (fun x _ h' => E x h') (fin Q) (startD N_law_is_name ds) h := by
  rintro ds h Q E ⟨_, w, rfl, hl, ret⟩
  show rd_law_is_name _ _ [some (.v (.str w)), none] h
  unfold rd_law_is_name
  have lw : w.length ≤ sizeLine := Nat.le_trans hl (by decide)
  try simp -dsimp -implicitDefEqProofs only [↓clx_FigureWords, ↓ers, ↓clx_Moves, ↓clx_Behind, ↓rds17, ↓rds15, ↓rds14, ↓rds13, ↓rds1, ↓rds2, ↓rds3, ↓rds4, ↓rds5, ↓rds6, ↓rds7, ↓rds8, ↓rds9, ↓rds10, ↓rds11, List.set_cons_zero, List.set_cons_succ, ne_eq, not_false_eq_true, decide_eq_true_eq, Bool.or_true, Bool.or_false, Bool.true_or, Bool.false_or, Bool.and_true, Bool.true_and, Bool.and_false, Bool.false_and, Bool.not_true, Bool.not_false, reduceCtorEq, beq_self_eq_true, true_and, and_true, if_true, if_false, Bool.false_eq_true]
  refine ⟨lw, dIte_by (fun e => ?_) fun ne => ?_⟩
  · have : w = "" := by
      have e0 : w.cps.toList = [] := List.length_eq_zero_iff.mp (by rw [str_len]; omega)
      exact strX_ext (by rw [e0]; decide)
    subst this
    refine dIte_pos rfl ?_
    try simp -dsimp -implicitDefEqProofs only [↓clx_FigureWords, ↓ers, ↓clx_Moves, ↓clx_Behind, ↓rds17, ↓rds15, ↓rds14, ↓rds13, ↓rds1, ↓rds2, ↓rds3, ↓rds4, ↓rds5, ↓rds6, ↓rds7, ↓rds8, ↓rds9, ↓rds10, ↓rds11, List.set_cons_zero, List.set_cons_succ, ne_eq, not_false_eq_true, decide_eq_true_eq, Bool.or_true, Bool.or_false, Bool.true_or, Bool.false_or, Bool.and_true, Bool.true_and, Bool.and_false, Bool.false_and, Bool.not_true, Bool.not_false, reduceCtorEq, beq_self_eq_true, true_and, and_true, if_true, if_false, Bool.false_eq_true]
    exact finR ret
  obtain ⟨c, r, ew⟩ := strX_cons (w := w) (fun e => by subst e; exact ne (by decide))
  have e0 : atI w.cps.toList 0 = some c := by rw [ew]; exact atI_nat (j := 0) rfl
  have hn := nameX_cons ew
  rw [hn] at ret
  have h1 : 1 ≤ w.length := by rw [← str_len, ew, List.length_cons]; omega
  try simp -dsimp -implicitDefEqProofs only [↓clx_FigureWords, ↓ers, ↓clx_Moves, ↓clx_Behind, ↓rds17, ↓rds15, ↓rds14, ↓rds13, ↓rds1, ↓rds2, ↓rds3, ↓rds4, ↓rds5, ↓rds6, ↓rds7, ↓rds8, ↓rds9, ↓rds10, ↓rds11, List.set_cons_zero, List.set_cons_succ, ne_eq, not_false_eq_true, decide_eq_true_eq, Bool.or_true, Bool.or_false, Bool.true_or, Bool.false_or, Bool.and_true, Bool.true_and, Bool.and_false, Bool.false_and, Bool.not_true, Bool.not_false, reduceCtorEq, beq_self_eq_true, true_and, and_true, if_true, if_false, Bool.false_eq_true]
  refine ⟨lw, dIte_by (fun k => ?_) fun k => ?_⟩
  · refine dIte_pos rfl ?_
    rw [decide_eq_false (by omega), Bool.false_and, Bool.false_and] at ret
    try simp -dsimp -implicitDefEqProofs only [↓clx_FigureWords, ↓ers, ↓clx_Moves, ↓clx_Behind, ↓rds17, ↓rds15, ↓rds14, ↓rds13, ↓rds1, ↓rds2, ↓rds3, ↓rds4, ↓rds5, ↓rds6, ↓rds7, ↓rds8, ↓rds9, ↓rds10, ↓rds11, List.set_cons_zero, List.set_cons_succ, ne_eq, not_false_eq_true, decide_eq_true_eq, Bool.or_true, Bool.or_false, Bool.true_or, Bool.false_or, Bool.and_true, Bool.true_and, Bool.and_false, Bool.false_and, Bool.not_true, Bool.not_false, reduceCtorEq, beq_self_eq_true, true_and, and_true, if_true, if_false, Bool.false_eq_true]
    exact finR ret
  have k6 : w.length ≤ 6 := by omega
  rw [decide_eq_true ⟨h1, k6⟩, Bool.true_and] at ret
  try simp -dsimp -implicitDefEqProofs only [↓clx_FigureWords, ↓ers, ↓clx_Moves, ↓clx_Behind, ↓rds17, ↓rds15, ↓rds14, ↓rds13, ↓rds1, ↓rds2, ↓rds3, ↓rds4, ↓rds5, ↓rds6, ↓rds7, ↓rds8, ↓rds9, ↓rds10, ↓rds11, List.set_cons_zero, List.set_cons_succ, ne_eq, not_false_eq_true, decide_eq_true_eq, Bool.or_true, Bool.or_false, Bool.true_or, Bool.false_or, Bool.and_true, Bool.true_and, Bool.and_false, Bool.false_and, Bool.not_true, Bool.not_false, reduceCtorEq, beq_self_eq_true, true_and, and_true, if_true, if_false, Bool.false_eq_true, e0]
  refine ⟨lw, ?_⟩
  have eF : strIn ⟨#[c]⟩ "0123456789" = isFg c := rfl
  rw [eF]
  have df := (sgn_facts c).2
  cases hF : isFg c with
  | true =>
    rw [hF, Bool.and_true] at df
    rw [df, Bool.false_and] at ret
    try simp -dsimp -implicitDefEqProofs only [↓clx_FigureWords, ↓ers, ↓clx_Moves, ↓clx_Behind, ↓rds17, ↓rds15, ↓rds14, ↓rds13, ↓rds1, ↓rds2, ↓rds3, ↓rds4, ↓rds5, ↓rds6, ↓rds7, ↓rds8, ↓rds9, ↓rds10, ↓rds11, List.set_cons_zero, List.set_cons_succ, ne_eq, not_false_eq_true, decide_eq_true_eq, Bool.or_true, Bool.or_false, Bool.true_or, Bool.false_or, Bool.and_true, Bool.true_and, Bool.and_false, Bool.false_and, Bool.not_true, Bool.not_false, reduceCtorEq, beq_self_eq_true, true_and, and_true, if_true, if_false, Bool.false_eq_true]
    exact finR ret
  | false =>
    try simp -dsimp -implicitDefEqProofs only [↓clx_FigureWords, ↓ers, ↓clx_Moves, ↓clx_Behind, ↓rds17, ↓rds15, ↓rds14, ↓rds13, ↓rds1, ↓rds2, ↓rds3, ↓rds4, ↓rds5, ↓rds6, ↓rds7, ↓rds8, ↓rds9, ↓rds10, ↓rds11, List.set_cons_zero, List.set_cons_succ, ne_eq, not_false_eq_true, decide_eq_true_eq, Bool.or_true, Bool.or_false, Bool.true_or, Bool.false_or, Bool.and_true, Bool.true_and, Bool.and_false, Bool.false_and, Bool.not_true, Bool.not_false, reduceCtorEq, beq_self_eq_true, true_and, and_true, if_true, if_false, Bool.false_eq_true]
    refine loop_of (fun i σ h' => h' = h ∧ ∃ v, σ = [some (.v (.str w)), v] ∧ (w.cps.toList.take i).all (fun c => isLt c || isFg c) = true) ⟨rfl, none, rfl, rfl⟩ (fun _ _ _ _ _ => trivial) ?_ ?_
    · rintro i x σ h' hx ⟨rfl, v, rfl, ha⟩ N hN
      obtain ⟨d, hd, rfl⟩ : ∃ d, w.cps.toList[i]? = some d ∧ x = .v (.str ⟨#[d]⟩) := by
        unfold chars at hx
        rw [List.getElem?_map] at hx
        cases e : w.cps.toList[i]? with
        | none => rw [e] at hx; cases hx
        | some d => rw [e] at hx; cases hx; exact ⟨d, rfl, rfl⟩
      have dm : d ∈ w.cps.toList := List.mem_of_getElem? hd
      have es := (sgn_facts d).1
      try simp -dsimp -implicitDefEqProofs only [↓clx_FigureWords, ↓ers, ↓clx_Moves, ↓clx_Behind, ↓rds17, ↓rds15, ↓rds14, ↓rds13, ↓rds1, ↓rds2, ↓rds3, ↓rds4, ↓rds5, ↓rds6, ↓rds7, ↓rds8, ↓rds9, ↓rds10, ↓rds11, List.set_cons_zero, List.set_cons_succ, ne_eq, not_false_eq_true, decide_eq_true_eq, Bool.or_true, Bool.or_false, Bool.true_or, Bool.false_or, Bool.and_true, Bool.true_and, Bool.and_false, Bool.false_and, Bool.not_true, Bool.not_false, reduceCtorEq, beq_self_eq_true, true_and, and_true, if_true, if_false, Bool.false_eq_true, es]
      cases ho : (isLt d || isFg d) with
      | true =>
        try simp -dsimp -implicitDefEqProofs only [↓clx_FigureWords, ↓ers, ↓clx_Moves, ↓clx_Behind, ↓rds17, ↓rds15, ↓rds14, ↓rds13, ↓rds1, ↓rds2, ↓rds3, ↓rds4, ↓rds5, ↓rds6, ↓rds7, ↓rds8, ↓rds9, ↓rds10, ↓rds11, List.set_cons_zero, List.set_cons_succ, ne_eq, not_false_eq_true, decide_eq_true_eq, Bool.or_true, Bool.or_false, Bool.true_or, Bool.false_or, Bool.and_true, Bool.true_and, Bool.and_false, Bool.false_and, Bool.not_true, Bool.not_false, reduceCtorEq, beq_self_eq_true, true_and, and_true, if_true, if_false, Bool.false_eq_true]
        exact hN _ _ ⟨rfl, _, rfl, by rw [List.take_add_one, hd, List.all_append, ha]; show (true && ((isLt d || isFg d) && true)) = true; rw [ho]; rfl⟩
      | false =>
        have : (isLt c && w.cps.toList.all fun c => isLt c || isFg c) = false := by
          have : (w.cps.toList.all fun c => isLt c || isFg c) = false := by
            rw [List.all_eq_false]
            exact ⟨d, dm, by rw [ho]; simp⟩
          rw [this, Bool.and_false]
        rw [this] at ret
        try simp -dsimp -implicitDefEqProofs only [↓clx_FigureWords, ↓ers, ↓clx_Moves, ↓clx_Behind, ↓rds17, ↓rds15, ↓rds14, ↓rds13, ↓rds1, ↓rds2, ↓rds3, ↓rds4, ↓rds5, ↓rds6, ↓rds7, ↓rds8, ↓rds9, ↓rds10, ↓rds11, List.set_cons_zero, List.set_cons_succ, ne_eq, not_false_eq_true, decide_eq_true_eq, Bool.or_true, Bool.or_false, Bool.true_or, Bool.false_or, Bool.and_true, Bool.true_and, Bool.and_false, Bool.false_and, Bool.not_true, Bool.not_false, reduceCtorEq, beq_self_eq_true, true_and, and_true, if_true, if_false, Bool.false_eq_true]
        exact finR ret
    · rintro σ h' ⟨rfl, v, rfl, ha⟩
      have : (chars w).length = w.cps.toList.length := by unfold chars; rw [List.length_map]
      rw [this, List.take_length] at ha
      have fc : (isLt c || isFg c) = true := List.all_eq_true.mp ha c (by rw [ew]; exact List.mem_cons_self)
      rw [hF, Bool.or_false] at fc
      rw [fc, ha] at ret
      try simp -dsimp -implicitDefEqProofs only [↓clx_FigureWords, ↓ers, ↓clx_Moves, ↓clx_Behind, ↓rds17, ↓rds15, ↓rds14, ↓rds13, ↓rds1, ↓rds2, ↓rds3, ↓rds4, ↓rds5, ↓rds6, ↓rds7, ↓rds8, ↓rds9, ↓rds10, ↓rds11, List.set_cons_zero, List.set_cons_succ, ne_eq, not_false_eq_true, decide_eq_true_eq, Bool.or_true, Bool.or_false, Bool.true_or, Bool.false_or, Bool.and_true, Bool.true_and, Bool.and_false, Bool.false_and, Bool.not_true, Bool.not_false, reduceCtorEq, beq_self_eq_true, true_and, and_true, if_true, if_false, Bool.false_eq_true]
      exact finR ret
end DL
namespace DL
open PySem L2
def c_MOST_BOOK_NAMES : D := .v (.int 6)
def pfB (c : Nat) : D → List D
  | .v (.int i) => (rangeD (i + 1) ((c : Int) - (i + 1)).toNat).map fun y => .t [.v (.int i), y]
  | _ => []
def pairsB (c : Nat) : List D := (rangeD 0 c).flatMap (pfB c)
theorem pfB_len (c : Nat) (x : D) (hx : x ∈ rangeD 0 c) : (pfB c x).length ≤ c := by
  unfold rangeD at hx
  obtain ⟨i, hi, rfl⟩ := List.mem_map.mp hx
  show ((rangeD _ _).map _).length ≤ c
  unfold rangeD
  rw [List.length_map, List.length_map, List.length_range]
  omega
theorem flatB_len {α β : Type} (f : α → List β) (n : Nat) : ∀ l : List α, (∀ x ∈ l, (f x).length ≤ n) → (l.flatMap f).length ≤ l.length * n
  | [], _ => by simp
  | x :: r, h => by
    rw [List.flatMap_cons, List.length_append, List.length_cons, Nat.succ_mul]
    have := flatB_len f n r fun y hy => h y (List.mem_cons_of_mem _ hy)
    have := h x List.mem_cons_self
    omega
theorem pairsB_len (c : Nat) : (pairsB c).length ≤ c * c := by
  have := flatB_len (pfB c) c (rangeD 0 c) fun x hx => pfB_len c x hx
  unfold rangeD at this
  rw [List.length_map, List.length_range] at this
  exact this
def sp_number_pairs : SpD := fun ds h Q _ => ds.length = 1 ∧ ∃ c : Nat, ds = [.v (.int (c : Int))] ∧ c ≤ 1000 ∧ ∀ p : Addr, h p = none → Q (.v (.ref p)) (put h p (.lst (pairsB c)))
def rd_number_pairs (E : ER) : SD :=
  dRet (dLc2 (iRng1D (dCons (dVar 0) (dNil))) (nG 1) (dYes) (iRng2D (dCons (d2 pAdd (dVar 1) (dC (.v (.int 1)))) (dCons (dVar 0) (dNil)))) (nG 2) (dYes) (dTup (dCons (dVar 1) (dCons (dVar 2) (dNil)))) [1, 2] [2])
abbrev N_number_pairs : List Str := ["count", "first", "second"]
theorem ok_number_pairs : ∀ ds h Q E, sp_number_pairs ds h Q E → rd_number_pairs (fun x _ h' => E x h') (fin Q) (startD N_number_pairs ds) h := by
  rintro ds h Q E ⟨_, c, rfl, hc, ret⟩
  show rd_number_pairs _ _ [some (.v (.int (c : Int))), none, none] h
  unfold rd_number_pairs
  have hcc : c * c ≤ 1000000 := Nat.mul_le_mul hc hc
  try simp -dsimp -implicitDefEqProofs only [↓clx_FigureWords, ↓ers, ↓clx_Moves, ↓clx_Behind, ↓rds17, ↓rds15, ↓rds14, ↓rds13, ↓rds1, ↓rds2, ↓rds3, ↓rds4, ↓rds5, ↓rds6, ↓rds7, ↓rds8, ↓rds9, ↓rds10, ↓rds11, List.set_cons_zero, List.set_cons_succ, ne_eq, not_false_eq_true, decide_eq_true_eq, Bool.or_true, Bool.or_false, Bool.true_or, Bool.false_or, Bool.and_true, Bool.true_and, Bool.and_false, Bool.false_and, Bool.not_true, Bool.not_false, reduceCtorEq, beq_self_eq_true, true_and, and_true, toNat_n]
  refine ⟨by omega, cmp2_of (pfB c) trivial (Nat.le_trans (pairsB_len c) hcc) ?_ ?_⟩
  · intro x hx S N acc hacc hS
    unfold rangeD at hx
    obtain ⟨i, hi, rfl⟩ := List.mem_map.mp hx
    have hi := List.mem_range.mp hi
    try simp -dsimp -implicitDefEqProofs only [↓clx_FigureWords, ↓ers, ↓clx_Moves, ↓clx_Behind, ↓rds17, ↓rds15, ↓rds14, ↓rds13, ↓rds1, ↓rds2, ↓rds3, ↓rds4, ↓rds5, ↓rds6, ↓rds7, ↓rds8, ↓rds9, ↓rds10, ↓rds11, List.set_cons_zero, List.set_cons_succ, ne_eq, not_false_eq_true, decide_eq_true_eq, Bool.or_true, Bool.or_false, Bool.true_or, Bool.false_or, Bool.and_true, Bool.true_and, Bool.and_false, Bool.false_and, Bool.not_true, Bool.not_false, reduceCtorEq, beq_self_eq_true, true_and, and_true]
    refine ⟨by omega, comp_map (fun y => .t [.v (.int (0 + (i : Int))), y]) trivial (by have : (pfB c (.v (.int (0 + (i : Int))))).length = (rangeD (0 + (i : Int) + 1) ((c : Int) - (0 + (i : Int) + 1)).toNat).length := List.length_map _; omega) ?_ hS⟩
    intro y hy S N hS
    unfold rangeD at hy
    obtain ⟨j, hj, rfl⟩ := List.mem_map.mp hy
    try simp -dsimp -implicitDefEqProofs only [↓clx_FigureWords, ↓ers, ↓clx_Moves, ↓clx_Behind, ↓rds17, ↓rds15, ↓rds14, ↓rds13, ↓rds1, ↓rds2, ↓rds3, ↓rds4, ↓rds5, ↓rds6, ↓rds7, ↓rds8, ↓rds9, ↓rds10, ↓rds11, List.set_cons_zero, List.set_cons_succ, ne_eq, not_false_eq_true, decide_eq_true_eq, Bool.or_true, Bool.or_false, Bool.true_or, Bool.false_or, Bool.and_true, Bool.true_and, Bool.and_false, Bool.false_and, Bool.not_true, Bool.not_false, reduceCtorEq, beq_self_eq_true, true_and, and_true]
    exact hS
  · intro p hp
    exact finR (ret p hp)
theorem pairsB_pos (c : Nat) : ∀ m : Nat, (((List.range m).map fun i : Nat => D.v (.int (0 + (i : Int)))).flatMap (pfB c)).length = ((List.range m).map fun i => c - (i + 1)).sum
  | 0 => rfl
  | m + 1 => by
    rw [List.range_succ, List.map_append, List.flatMap_append, List.length_append, pairsB_pos c m, List.map_append, List.sum_append]
    congr 1
    show (pfB c (.v (.int (0 + (m : Int)))) ++ []).length = c - (m + 1) + 0
    rw [List.append_nil]
    show ((rangeD _ _).map _).length = _
    unfold rangeD
    rw [List.length_map, List.length_map, List.length_range]
    omega
def nPairs (c : Nat) : Nat := c * (c - 1) / 2
theorem pairsB_count : ∀ c : Nat, c ≤ 6 → (pairsB c).length = nPairs c := by
  have h : ∀ c : Nat, (pairsB c).length = ((List.range c).map fun i => c - (i + 1)).sum := fun c => pairsB_pos c c
  intro c hc
  rw [h]
  have : ∀ c : Nat, c < 7 → ((List.range c).map fun i => c - (i + 1)).sum = nPairs c := by decide
  exact this c (by omega)
def pkgF : List Str → List Str → D
  | [], _ => .v .non
  | n :: r, s => if nameB n = true then (if n ∈ s then .t [sD "double", sD n] else pkgF r (s ++ [n])) else .t [sD "name", sD n]
def namesF (ns : List Str) : D := if 1 ≤ ns.length ∧ ns.length ≤ 6 then pkgF ns [] else .t [sD "names", .v (.int (ns.length : Int))]
theorem pkg_at {ns : List Str} {i : Nat} (h : i < ns.length) : pkgF (ns.drop i) (ns.take i) = if nameB (nmAt ns i) = true then (if nmAt ns i ∈ ns.take i then .t [sD "double", sD (nmAt ns i)] else pkgF (ns.drop (i + 1)) (ns.take (i + 1))) else .t [sD "name", sD (nmAt ns i)] := by
  have e : ns.drop i = nmAt ns i :: ns.drop (i + 1) := drop_nx h
  have e2 : ns.take (i + 1) = ns.take i ++ [nmAt ns i] := by
    rw [List.take_add_one, List.getElem?_eq_getElem h]
    unfold nmAt
    rw [List.getD_eq_getElem?_getD, List.getElem?_eq_getElem h]; rfl
  rw [e, e2]; rfl
def sp_names_fault : SpD := fun ds h Q _ => ds.length = 1 ∧ ∃ (d : D) (ns : List Str), ds = [d] ∧ Seq h d ns ∧ ns.length ≤ 100 ∧ (∀ n ∈ ns, n.length ≤ 64) ∧ Q (namesF ns) h
def rd_names_fault (E : ER) : SD :=
  dSeq (dIfS (dNot (dTest (d3 pLe pLe (dC (.v (.int 1))) (dCB cLen (dCons (dVar 0) (dNil))) (dC c_MOST_BOOK_NAMES)))) (dRet (dTup (dCons (dC (.v (.str "names"))) (dCons (dCB cLen (dCons (dVar 0) (dNil))) (dNil))))) (dNext))
  (dSeq (dFor (iRng1D (dCons (dCB cLen (dCons (dVar 0) (dNil))) (dNil))) (nG 1) (dSeq (dIfS (dNot (dTest (dCall sp_is_name E (dCons (d2 pIt (dVar 0) (dVar 1)) (dNil))))) (dRet (dTup (dCons (dC (.v (.str "name"))) (dCons (d2 pIt (dVar 0) (dVar 1)) (dNil))))) (dNext))
  (dIfS (dTest (d2 pMem (d2 pIt (dVar 0) (dVar 1)) (dSl (dVar 0) (dNoPart) (dPart (dVar 1))))) (dRet (dTup (dCons (dC (.v (.str "double"))) (dCons (d2 pIt (dVar 0) (dVar 1)) (dNil))))) (dNext))))
  (dRet (dC (.v .non))))
abbrev N_names_fault : List Str := ["names", "at"]
theorem ok_names_fault : ∀ ds h Q E, sp_names_fault ds h Q E → rd_names_fault (fun x _ h' => E x h') (fin Q) (startD N_names_fault ds) h := by
  rintro ds h Q E ⟨_, d, ns, rfl, sq, l9, sh, q⟩
  show rd_names_fault _ _ [some d, none] h
  unfold rd_names_fault
  have lm : (ns.map sD).length = ns.length := List.length_map ..
  have lr := ln_range (n := ns.length) (j := (ns.length : Int)) rfl
  have take_s : ∀ i, (ns.map sD).take i = (ns.take i).map sD := fun i => List.map_take.symm
  unfold namesF at q
  rcases sq with rfl | ⟨a, rfl, ga⟩
  · try simp -dsimp -implicitDefEqProofs only [↓clx_FigureWords, ↓ers, ↓clx_Moves, ↓clx_Behind, ↓rds17, ↓rds15, ↓rds14, ↓rds13, ↓rds1, ↓rds2, ↓rds3, ↓rds4, ↓rds5, ↓rds6, ↓rds7, ↓rds8, ↓rds9, ↓rds10, ↓rds11, List.set_cons_zero, List.set_cons_succ, ne_eq, not_false_eq_true, decide_eq_true_eq, Bool.or_true, Bool.or_false, Bool.true_or, Bool.false_or, Bool.and_true, Bool.true_and, Bool.and_false, Bool.false_and, Bool.not_true, Bool.not_false, reduceCtorEq, beq_self_eq_true, true_and, and_true, if_true, if_false, Bool.false_eq_true, List.length_map, c_MOST_BOOK_NAMES]
    refine dIte_by (fun c1 => ?_) fun c1 => ?_
    · try simp -dsimp -implicitDefEqProofs only [↓clx_FigureWords, ↓ers, ↓clx_Moves, ↓clx_Behind, ↓rds17, ↓rds15, ↓rds14, ↓rds13, ↓rds1, ↓rds2, ↓rds3, ↓rds4, ↓rds5, ↓rds6, ↓rds7, ↓rds8, ↓rds9, ↓rds10, ↓rds11, List.set_cons_zero, List.set_cons_succ, ne_eq, not_false_eq_true, decide_eq_true_eq, Bool.or_true, Bool.or_false, Bool.true_or, Bool.false_or, Bool.and_true, Bool.true_and, Bool.and_false, Bool.false_and, Bool.not_true, Bool.not_false, reduceCtorEq, beq_self_eq_true, true_and, and_true, if_true, if_false, Bool.false_eq_true, List.length_map, c_MOST_BOOK_NAMES]
      refine dIte_by (fun c2 => ?_) fun c2 => ?_
      · have c2 : ¬ (ns.length : Int) ≤ 6 := by simpa using c2
        try simp -dsimp -implicitDefEqProofs only [↓clx_FigureWords, ↓ers, ↓clx_Moves, ↓clx_Behind, ↓rds17, ↓rds15, ↓rds14, ↓rds13, ↓rds1, ↓rds2, ↓rds3, ↓rds4, ↓rds5, ↓rds6, ↓rds7, ↓rds8, ↓rds9, ↓rds10, ↓rds11, List.set_cons_zero, List.set_cons_succ, ne_eq, not_false_eq_true, decide_eq_true_eq, Bool.or_true, Bool.or_false, Bool.true_or, Bool.false_or, Bool.and_true, Bool.true_and, Bool.and_false, Bool.false_and, Bool.not_true, Bool.not_false, reduceCtorEq, beq_self_eq_true, true_and, and_true, if_true, if_false, Bool.false_eq_true, List.length_map]
        rw [if_neg (by omega)] at q
        try simp -dsimp -implicitDefEqProofs only [↓clx_FigureWords, ↓ers, ↓clx_Moves, ↓clx_Behind, ↓rds17, ↓rds15, ↓rds14, ↓rds13, ↓rds1, ↓rds2, ↓rds3, ↓rds4, ↓rds5, ↓rds6, ↓rds7, ↓rds8, ↓rds9, ↓rds10, ↓rds11, List.set_cons_zero, List.set_cons_succ, ne_eq, not_false_eq_true, decide_eq_true_eq, Bool.or_true, Bool.or_false, Bool.true_or, Bool.false_or, Bool.and_true, Bool.true_and, Bool.and_false, Bool.false_and, Bool.not_true, Bool.not_false, reduceCtorEq, beq_self_eq_true, true_and, and_true, if_true, if_false, Bool.false_eq_true, List.length_map]
        exact finR q
      · have c2 : (ns.length : Int) ≤ 6 := by simpa using c2
        rw [if_pos (by omega)] at q
        try simp -dsimp -implicitDefEqProofs only [↓clx_FigureWords, ↓ers, ↓clx_Moves, ↓clx_Behind, ↓rds17, ↓rds15, ↓rds14, ↓rds13, ↓rds1, ↓rds2, ↓rds3, ↓rds4, ↓rds5, ↓rds6, ↓rds7, ↓rds8, ↓rds9, ↓rds10, ↓rds11, List.set_cons_zero, List.set_cons_succ, ne_eq, not_false_eq_true, decide_eq_true_eq, Bool.or_true, Bool.or_false, Bool.true_or, Bool.false_or, Bool.and_true, Bool.true_and, Bool.and_false, Bool.false_and, Bool.not_true, Bool.not_false, reduceCtorEq, beq_self_eq_true, true_and, and_true, if_true, if_false, Bool.false_eq_true, List.length_map]
        refine ⟨by omega, loop_of (fun i σ h' => i ≤ ns.length ∧ Sub h h' ∧ pkgF ns [] = pkgF (ns.drop i) (ns.take i) ∧ ∃ v1, σ = [some (.t (ns.map sD)), v1]) ⟨Nat.zero_le _, Sub.refl h, rfl, _, rfl⟩ (fun _ _ _ _ _ => trivial) ?_ ?_⟩
        · rintro i x σ h' hx ⟨hi, s', ep, v1, rfl⟩ N hN
          obtain ⟨hi, rfl⟩ := rangeD_get hx
          have hi : i < ns.length := by omega
          have sZ := s'
          have en := nm_at (ns := ns) (i := i) (j := 0 + (i : Int)) hi (by omega)
          have nl := sh _ (show nmAt ns i ∈ ns by unfold nmAt; rw [List.getD_eq_getElem?_getD, List.getElem?_eq_getElem hi]; exact List.getElem_mem hi)
          rw [pkg_at hi] at ep
          try simp -dsimp -implicitDefEqProofs only [↓clx_FigureWords, ↓ers, ↓clx_Moves, ↓clx_Behind, ↓rds17, ↓rds15, ↓rds14, ↓rds13, ↓rds1, ↓rds2, ↓rds3, ↓rds4, ↓rds5, ↓rds6, ↓rds7, ↓rds8, ↓rds9, ↓rds10, ↓rds11, List.set_cons_zero, List.set_cons_succ, ne_eq, not_false_eq_true, decide_eq_true_eq, Bool.or_true, Bool.or_false, Bool.true_or, Bool.false_or, Bool.and_true, Bool.true_and, Bool.and_false, Bool.false_and, Bool.not_true, Bool.not_false, reduceCtorEq, beq_self_eq_true, true_and, and_true, if_true, if_false, Bool.false_eq_true, en, sD]
          refine cl_i ⟨rfl, nmAt ns i, rfl, nl, ?_⟩
          cases b : nameB (nmAt ns i) with
          | false =>
            rw [b, if_neg (by decide)] at ep
            rw [ep] at q
            try simp -dsimp -implicitDefEqProofs only [↓clx_FigureWords, ↓ers, ↓clx_Moves, ↓clx_Behind, ↓rds17, ↓rds15, ↓rds14, ↓rds13, ↓rds1, ↓rds2, ↓rds3, ↓rds4, ↓rds5, ↓rds6, ↓rds7, ↓rds8, ↓rds9, ↓rds10, ↓rds11, List.set_cons_zero, List.set_cons_succ, ne_eq, not_false_eq_true, decide_eq_true_eq, Bool.or_true, Bool.or_false, Bool.true_or, Bool.false_or, Bool.and_true, Bool.true_and, Bool.and_false, Bool.false_and, Bool.not_true, Bool.not_false, reduceCtorEq, beq_self_eq_true, true_and, and_true, if_true, if_false, Bool.false_eq_true, en, sD]
            exact finI s' q
          | true =>
            rw [b, if_pos rfl] at ep
            have ct : cutD (ns.map sD) none (some (0 + (i : Int))) = (ns.take i).map sD := by rw [Int.zero_add, cut_take, List.map_take]
            have fl : ((ns.take i).map sD).all flatD = true := flat_sD _
            try simp -dsimp -implicitDefEqProofs only [↓clx_FigureWords, ↓ers, ↓clx_Moves, ↓clx_Behind, ↓rds17, ↓rds15, ↓rds14, ↓rds13, ↓rds1, ↓rds2, ↓rds3, ↓rds4, ↓rds5, ↓rds6, ↓rds7, ↓rds8, ↓rds9, ↓rds10, ↓rds11, List.set_cons_zero, List.set_cons_succ, ne_eq, not_false_eq_true, decide_eq_true_eq, Bool.or_true, Bool.or_false, Bool.true_or, Bool.false_or, Bool.and_true, Bool.true_and, Bool.and_false, Bool.false_and, Bool.not_true, Bool.not_false, reduceCtorEq, beq_self_eq_true, true_and, and_true, if_true, if_false, Bool.false_eq_true, en, sD]
            try simp -dsimp -implicitDefEqProofs only [↓clx_FigureWords, ↓ers, ↓clx_Moves, ↓clx_Behind, ↓rds17, ↓rds15, ↓rds14, ↓rds13, ↓rds1, ↓rds2, ↓rds3, ↓rds4, ↓rds5, ↓rds6, ↓rds7, ↓rds8, ↓rds9, ↓rds10, ↓rds11, List.set_cons_zero, List.set_cons_succ, ne_eq, not_false_eq_true, decide_eq_true_eq, Bool.or_true, Bool.or_false, Bool.true_or, Bool.false_or, Bool.and_true, Bool.true_and, Bool.and_false, Bool.false_and, Bool.not_true, Bool.not_false, reduceCtorEq, beq_self_eq_true, true_and, and_true, if_true, if_false, Bool.false_eq_true, en, sD, ct, fl, inL_sD]
            refine ⟨rfl, dIte_by (fun c => ?_) fun c => ?_⟩
            · rw [if_pos c] at ep
              rw [ep] at q
              try simp -dsimp -implicitDefEqProofs only [↓clx_FigureWords, ↓ers, ↓clx_Moves, ↓clx_Behind, ↓rds17, ↓rds15, ↓rds14, ↓rds13, ↓rds1, ↓rds2, ↓rds3, ↓rds4, ↓rds5, ↓rds6, ↓rds7, ↓rds8, ↓rds9, ↓rds10, ↓rds11, List.set_cons_zero, List.set_cons_succ, ne_eq, not_false_eq_true, decide_eq_true_eq, Bool.or_true, Bool.or_false, Bool.true_or, Bool.false_or, Bool.and_true, Bool.true_and, Bool.and_false, Bool.false_and, Bool.not_true, Bool.not_false, reduceCtorEq, beq_self_eq_true, true_and, and_true, if_true, if_false, Bool.false_eq_true, en, sD]
              exact finI sZ q
            · rw [if_neg c] at ep
              try simp -dsimp -implicitDefEqProofs only [↓clx_FigureWords, ↓ers, ↓clx_Moves, ↓clx_Behind, ↓rds17, ↓rds15, ↓rds14, ↓rds13, ↓rds1, ↓rds2, ↓rds3, ↓rds4, ↓rds5, ↓rds6, ↓rds7, ↓rds8, ↓rds9, ↓rds10, ↓rds11, List.set_cons_zero, List.set_cons_succ, ne_eq, not_false_eq_true, decide_eq_true_eq, Bool.or_true, Bool.or_false, Bool.true_or, Bool.false_or, Bool.and_true, Bool.true_and, Bool.and_false, Bool.false_and, Bool.not_true, Bool.not_false, reduceCtorEq, beq_self_eq_true, true_and, and_true, if_true, if_false, Bool.false_eq_true]
              exact hN _ _ ⟨hi, sZ, ep, _, rfl⟩
        · rintro σ h' ⟨hi, s', ep, v1, rfl⟩
          rw [lr, List.drop_length] at ep
          rw [ep] at q
          try simp -dsimp -implicitDefEqProofs only [↓clx_FigureWords, ↓ers, ↓clx_Moves, ↓clx_Behind, ↓rds17, ↓rds15, ↓rds14, ↓rds13, ↓rds1, ↓rds2, ↓rds3, ↓rds4, ↓rds5, ↓rds6, ↓rds7, ↓rds8, ↓rds9, ↓rds10, ↓rds11, List.set_cons_zero, List.set_cons_succ, ne_eq, not_false_eq_true, decide_eq_true_eq, Bool.or_true, Bool.or_false, Bool.true_or, Bool.false_or, Bool.and_true, Bool.true_and, Bool.and_false, Bool.false_and, Bool.not_true, Bool.not_false, reduceCtorEq, beq_self_eq_true, true_and, and_true, if_true, if_false, Bool.false_eq_true]
          exact finI s' q
    · try simp -dsimp -implicitDefEqProofs only [↓clx_FigureWords, ↓ers, ↓clx_Moves, ↓clx_Behind, ↓rds17, ↓rds15, ↓rds14, ↓rds13, ↓rds1, ↓rds2, ↓rds3, ↓rds4, ↓rds5, ↓rds6, ↓rds7, ↓rds8, ↓rds9, ↓rds10, ↓rds11, List.set_cons_zero, List.set_cons_succ, ne_eq, not_false_eq_true, decide_eq_true_eq, Bool.or_true, Bool.or_false, Bool.true_or, Bool.false_or, Bool.and_true, Bool.true_and, Bool.and_false, Bool.false_and, Bool.not_true, Bool.not_false, reduceCtorEq, beq_self_eq_true, true_and, and_true, if_true, if_false, Bool.false_eq_true, List.length_map]
      rw [if_neg (by omega)] at q
      try simp -dsimp -implicitDefEqProofs only [↓clx_FigureWords, ↓ers, ↓clx_Moves, ↓clx_Behind, ↓rds17, ↓rds15, ↓rds14, ↓rds13, ↓rds1, ↓rds2, ↓rds3, ↓rds4, ↓rds5, ↓rds6, ↓rds7, ↓rds8, ↓rds9, ↓rds10, ↓rds11, List.set_cons_zero, List.set_cons_succ, ne_eq, not_false_eq_true, decide_eq_true_eq, Bool.or_true, Bool.or_false, Bool.true_or, Bool.false_or, Bool.and_true, Bool.true_and, Bool.and_false, Bool.false_and, Bool.not_true, Bool.not_false, reduceCtorEq, beq_self_eq_true, true_and, and_true, if_true, if_false, Bool.false_eq_true, List.length_map]
      exact finR q
  · try simp -dsimp -implicitDefEqProofs only [↓clx_FigureWords, ↓ers, ↓clx_Moves, ↓clx_Behind, ↓rds17, ↓rds15, ↓rds14, ↓rds13, ↓rds1, ↓rds2, ↓rds3, ↓rds4, ↓rds5, ↓rds6, ↓rds7, ↓rds8, ↓rds9, ↓rds10, ↓rds11, List.set_cons_zero, List.set_cons_succ, ne_eq, not_false_eq_true, decide_eq_true_eq, Bool.or_true, Bool.or_false, Bool.true_or, Bool.false_or, Bool.and_true, Bool.true_and, Bool.and_false, Bool.false_and, Bool.not_true, Bool.not_false, reduceCtorEq, beq_self_eq_true, true_and, and_true, if_true, if_false, Bool.false_eq_true, ga, List.length_map, c_MOST_BOOK_NAMES]
    refine dIte_by (fun c1 => ?_) fun c1 => ?_
    · try simp -dsimp -implicitDefEqProofs only [↓clx_FigureWords, ↓ers, ↓clx_Moves, ↓clx_Behind, ↓rds17, ↓rds15, ↓rds14, ↓rds13, ↓rds1, ↓rds2, ↓rds3, ↓rds4, ↓rds5, ↓rds6, ↓rds7, ↓rds8, ↓rds9, ↓rds10, ↓rds11, List.set_cons_zero, List.set_cons_succ, ne_eq, not_false_eq_true, decide_eq_true_eq, Bool.or_true, Bool.or_false, Bool.true_or, Bool.false_or, Bool.and_true, Bool.true_and, Bool.and_false, Bool.false_and, Bool.not_true, Bool.not_false, reduceCtorEq, beq_self_eq_true, true_and, and_true, if_true, if_false, Bool.false_eq_true, ga, List.length_map, c_MOST_BOOK_NAMES]
      refine dIte_by (fun c2 => ?_) fun c2 => ?_
      · have c2 : ¬ (ns.length : Int) ≤ 6 := by simpa using c2
        try simp -dsimp -implicitDefEqProofs only [↓clx_FigureWords, ↓ers, ↓clx_Moves, ↓clx_Behind, ↓rds17, ↓rds15, ↓rds14, ↓rds13, ↓rds1, ↓rds2, ↓rds3, ↓rds4, ↓rds5, ↓rds6, ↓rds7, ↓rds8, ↓rds9, ↓rds10, ↓rds11, List.set_cons_zero, List.set_cons_succ, ne_eq, not_false_eq_true, decide_eq_true_eq, Bool.or_true, Bool.or_false, Bool.true_or, Bool.false_or, Bool.and_true, Bool.true_and, Bool.and_false, Bool.false_and, Bool.not_true, Bool.not_false, reduceCtorEq, beq_self_eq_true, true_and, and_true, if_true, if_false, Bool.false_eq_true, ga, List.length_map]
        rw [if_neg (by omega)] at q
        try simp -dsimp -implicitDefEqProofs only [↓clx_FigureWords, ↓ers, ↓clx_Moves, ↓clx_Behind, ↓rds17, ↓rds15, ↓rds14, ↓rds13, ↓rds1, ↓rds2, ↓rds3, ↓rds4, ↓rds5, ↓rds6, ↓rds7, ↓rds8, ↓rds9, ↓rds10, ↓rds11, List.set_cons_zero, List.set_cons_succ, ne_eq, not_false_eq_true, decide_eq_true_eq, Bool.or_true, Bool.or_false, Bool.true_or, Bool.false_or, Bool.and_true, Bool.true_and, Bool.and_false, Bool.false_and, Bool.not_true, Bool.not_false, reduceCtorEq, beq_self_eq_true, true_and, and_true, if_true, if_false, Bool.false_eq_true, ga, List.length_map]
        exact finR q
      · have c2 : (ns.length : Int) ≤ 6 := by simpa using c2
        rw [if_pos (by omega)] at q
        try simp -dsimp -implicitDefEqProofs only [↓clx_FigureWords, ↓ers, ↓clx_Moves, ↓clx_Behind, ↓rds17, ↓rds15, ↓rds14, ↓rds13, ↓rds1, ↓rds2, ↓rds3, ↓rds4, ↓rds5, ↓rds6, ↓rds7, ↓rds8, ↓rds9, ↓rds10, ↓rds11, List.set_cons_zero, List.set_cons_succ, ne_eq, not_false_eq_true, decide_eq_true_eq, Bool.or_true, Bool.or_false, Bool.true_or, Bool.false_or, Bool.and_true, Bool.true_and, Bool.and_false, Bool.false_and, Bool.not_true, Bool.not_false, reduceCtorEq, beq_self_eq_true, true_and, and_true, if_true, if_false, Bool.false_eq_true, ga, List.length_map]
        refine ⟨by omega, loop_of (fun i σ h' => i ≤ ns.length ∧ Sub h h' ∧ pkgF ns [] = pkgF (ns.drop i) (ns.take i) ∧ ∃ v1, σ = [some (.v (.ref a)), v1]) ⟨Nat.zero_le _, Sub.refl h, rfl, _, rfl⟩ (fun _ _ _ _ _ => trivial) ?_ ?_⟩
        · rintro i x σ h' hx ⟨hi, s', ep, v1, rfl⟩ N hN
          obtain ⟨hi, rfl⟩ := rangeD_get hx
          have hi : i < ns.length := by omega
          have ga1 := s' _ _ ga
          have en := nm_at (ns := ns) (i := i) (j := 0 + (i : Int)) hi (by omega)
          have nl := sh _ (show nmAt ns i ∈ ns by unfold nmAt; rw [List.getD_eq_getElem?_getD, List.getElem?_eq_getElem hi]; exact List.getElem_mem hi)
          rw [pkg_at hi] at ep
          try simp -dsimp -implicitDefEqProofs only [↓clx_FigureWords, ↓ers, ↓clx_Moves, ↓clx_Behind, ↓rds17, ↓rds15, ↓rds14, ↓rds13, ↓rds1, ↓rds2, ↓rds3, ↓rds4, ↓rds5, ↓rds6, ↓rds7, ↓rds8, ↓rds9, ↓rds10, ↓rds11, List.set_cons_zero, List.set_cons_succ, ne_eq, not_false_eq_true, decide_eq_true_eq, Bool.or_true, Bool.or_false, Bool.true_or, Bool.false_or, Bool.and_true, Bool.true_and, Bool.and_false, Bool.false_and, Bool.not_true, Bool.not_false, reduceCtorEq, beq_self_eq_true, true_and, and_true, if_true, if_false, Bool.false_eq_true, ga1, en, sD]
          refine cl_i ⟨rfl, nmAt ns i, rfl, nl, ?_⟩
          cases b : nameB (nmAt ns i) with
          | false =>
            rw [b, if_neg (by decide)] at ep
            rw [ep] at q
            try simp -dsimp -implicitDefEqProofs only [↓clx_FigureWords, ↓ers, ↓clx_Moves, ↓clx_Behind, ↓rds17, ↓rds15, ↓rds14, ↓rds13, ↓rds1, ↓rds2, ↓rds3, ↓rds4, ↓rds5, ↓rds6, ↓rds7, ↓rds8, ↓rds9, ↓rds10, ↓rds11, List.set_cons_zero, List.set_cons_succ, ne_eq, not_false_eq_true, decide_eq_true_eq, Bool.or_true, Bool.or_false, Bool.true_or, Bool.false_or, Bool.and_true, Bool.true_and, Bool.and_false, Bool.false_and, Bool.not_true, Bool.not_false, reduceCtorEq, beq_self_eq_true, true_and, and_true, if_true, if_false, Bool.false_eq_true, ga1, en, sD]
            exact finI s' q
          | true =>
            rw [b, if_pos rfl] at ep
            have ct : cutD (ns.map sD) none (some (0 + (i : Int))) = (ns.take i).map sD := by rw [Int.zero_add, cut_take, List.map_take]
            have fl : ((ns.take i).map sD).all flatD = true := flat_sD _
            try simp -dsimp -implicitDefEqProofs only [↓clx_FigureWords, ↓ers, ↓clx_Moves, ↓clx_Behind, ↓rds17, ↓rds15, ↓rds14, ↓rds13, ↓rds1, ↓rds2, ↓rds3, ↓rds4, ↓rds5, ↓rds6, ↓rds7, ↓rds8, ↓rds9, ↓rds10, ↓rds11, List.set_cons_zero, List.set_cons_succ, ne_eq, not_false_eq_true, decide_eq_true_eq, Bool.or_true, Bool.or_false, Bool.true_or, Bool.false_or, Bool.and_true, Bool.true_and, Bool.and_false, Bool.false_and, Bool.not_true, Bool.not_false, reduceCtorEq, beq_self_eq_true, true_and, and_true, if_true, if_false, Bool.false_eq_true, ga1, en, sD]
            refine al_i fun z hz => ?_
            rw [ct]
            have sZ := s'.trans (Sub.put (o := .lst ((ns.take i).map sD)) hz)
            have ga3 := Sub.put (o := .lst ((ns.take i).map sD)) hz _ _ ga1
            have gz : put h' z (.lst ((ns.take i).map sD)) z = some (.lst ((ns.take i).map sD)) := put_same
            generalize put h' z (.lst ((ns.take i).map sD)) = h3 at sZ ga3 gz
            try simp -dsimp -implicitDefEqProofs only [↓clx_FigureWords, ↓ers, ↓clx_Moves, ↓clx_Behind, ↓rds17, ↓rds15, ↓rds14, ↓rds13, ↓rds1, ↓rds2, ↓rds3, ↓rds4, ↓rds5, ↓rds6, ↓rds7, ↓rds8, ↓rds9, ↓rds10, ↓rds11, List.set_cons_zero, List.set_cons_succ, ne_eq, not_false_eq_true, decide_eq_true_eq, Bool.or_true, Bool.or_false, Bool.true_or, Bool.false_or, Bool.and_true, Bool.true_and, Bool.and_false, Bool.false_and, Bool.not_true, Bool.not_false, reduceCtorEq, beq_self_eq_true, true_and, and_true, if_true, if_false, Bool.false_eq_true, ga3, gz, en, sD, ct, fl, inL_sD]
            refine ⟨rfl, dIte_by (fun c => ?_) fun c => ?_⟩
            · rw [if_pos c] at ep
              rw [ep] at q
              try simp -dsimp -implicitDefEqProofs only [↓clx_FigureWords, ↓ers, ↓clx_Moves, ↓clx_Behind, ↓rds17, ↓rds15, ↓rds14, ↓rds13, ↓rds1, ↓rds2, ↓rds3, ↓rds4, ↓rds5, ↓rds6, ↓rds7, ↓rds8, ↓rds9, ↓rds10, ↓rds11, List.set_cons_zero, List.set_cons_succ, ne_eq, not_false_eq_true, decide_eq_true_eq, Bool.or_true, Bool.or_false, Bool.true_or, Bool.false_or, Bool.and_true, Bool.true_and, Bool.and_false, Bool.false_and, Bool.not_true, Bool.not_false, reduceCtorEq, beq_self_eq_true, true_and, and_true, if_true, if_false, Bool.false_eq_true, ga3, gz, en, sD]
              exact finI sZ q
            · rw [if_neg c] at ep
              try simp -dsimp -implicitDefEqProofs only [↓clx_FigureWords, ↓ers, ↓clx_Moves, ↓clx_Behind, ↓rds17, ↓rds15, ↓rds14, ↓rds13, ↓rds1, ↓rds2, ↓rds3, ↓rds4, ↓rds5, ↓rds6, ↓rds7, ↓rds8, ↓rds9, ↓rds10, ↓rds11, List.set_cons_zero, List.set_cons_succ, ne_eq, not_false_eq_true, decide_eq_true_eq, Bool.or_true, Bool.or_false, Bool.true_or, Bool.false_or, Bool.and_true, Bool.true_and, Bool.and_false, Bool.false_and, Bool.not_true, Bool.not_false, reduceCtorEq, beq_self_eq_true, true_and, and_true, if_true, if_false, Bool.false_eq_true]
              exact hN _ _ ⟨hi, sZ, ep, _, rfl⟩
        · rintro σ h' ⟨hi, s', ep, v1, rfl⟩
          rw [lr, List.drop_length] at ep
          rw [ep] at q
          try simp -dsimp -implicitDefEqProofs only [↓clx_FigureWords, ↓ers, ↓clx_Moves, ↓clx_Behind, ↓rds17, ↓rds15, ↓rds14, ↓rds13, ↓rds1, ↓rds2, ↓rds3, ↓rds4, ↓rds5, ↓rds6, ↓rds7, ↓rds8, ↓rds9, ↓rds10, ↓rds11, List.set_cons_zero, List.set_cons_succ, ne_eq, not_false_eq_true, decide_eq_true_eq, Bool.or_true, Bool.or_false, Bool.true_or, Bool.false_or, Bool.and_true, Bool.true_and, Bool.and_false, Bool.false_and, Bool.not_true, Bool.not_false, reduceCtorEq, beq_self_eq_true, true_and, and_true, if_true, if_false, Bool.false_eq_true]
          exact finI s' q
    · try simp -dsimp -implicitDefEqProofs only [↓clx_FigureWords, ↓ers, ↓clx_Moves, ↓clx_Behind, ↓rds17, ↓rds15, ↓rds14, ↓rds13, ↓rds1, ↓rds2, ↓rds3, ↓rds4, ↓rds5, ↓rds6, ↓rds7, ↓rds8, ↓rds9, ↓rds10, ↓rds11, List.set_cons_zero, List.set_cons_succ, ne_eq, not_false_eq_true, decide_eq_true_eq, Bool.or_true, Bool.or_false, Bool.true_or, Bool.false_or, Bool.and_true, Bool.true_and, Bool.and_false, Bool.false_and, Bool.not_true, Bool.not_false, reduceCtorEq, beq_self_eq_true, true_and, and_true, if_true, if_false, Bool.false_eq_true, ga, List.length_map]
      rw [if_neg (by omega)] at q
      try simp -dsimp -implicitDefEqProofs only [↓clx_FigureWords, ↓ers, ↓clx_Moves, ↓clx_Behind, ↓rds17, ↓rds15, ↓rds14, ↓rds13, ↓rds1, ↓rds2, ↓rds3, ↓rds4, ↓rds5, ↓rds6, ↓rds7, ↓rds8, ↓rds9, ↓rds10, ↓rds11, List.set_cons_zero, List.set_cons_succ, ne_eq, not_false_eq_true, decide_eq_true_eq, Bool.or_true, Bool.or_false, Bool.true_or, Bool.false_or, Bool.and_true, Bool.true_and, Bool.and_false, Bool.false_and, Bool.not_true, Bool.not_false, reduceCtorEq, beq_self_eq_true, true_and, and_true, if_true, if_false, Bool.false_eq_true, ga, List.length_map]
      exact finR q
def headF (kind : Str) (ns : List Str) : D := if kind ∈ kds then namesF ns else .t [sD "kind", sD kind]
def noF : D → Bool
  | .v .non => true
  | _ => false
theorem pkg_or : ∀ (l s : List Str), pkgF l s = .v .non ∨ ∃ xs, pkgF l s = .t xs
  | [], _ => .inl rfl
  | n :: r, s => by
    unfold pkgF
    split
    · split
      · exact .inr ⟨_, rfl⟩
      · exact pkg_or r _
    · exact .inr ⟨_, rfl⟩
theorem head_or (kind : Str) (ns : List Str) : headF kind ns = .v .non ∨ ∃ xs, headF kind ns = .t xs := by
  unfold headF namesF
  split
  · split
    · exact pkg_or _ _
    · exact .inr ⟨_, rfl⟩
  · exact .inr ⟨_, rfl⟩
def sp_head_fault : SpD := fun ds h Q _ => ds.length = 2 ∧ ∃ (kind : Str) (d : D) (ns : List Str), ds = [.v (.str kind), d] ∧ Seq h d ns ∧ ns.length ≤ 100 ∧ (∀ n ∈ ns, n.length ≤ 64) ∧ Q (headF kind ns) h
def rd_head_fault (E : ER) : SD :=
  dSeq (dIfS (dTest (d2 pNotMem (dVar 0) (dC c_KINDS))) (dRet (dTup (dCons (dC (.v (.str "kind"))) (dCons (dVar 0) (dNil))))) (dNext))
  (dRet (dCall sp_names_fault E (dCons (dVar 1) (dNil))))
abbrev N_head_fault : List Str := ["kind", "names"]
theorem ok_head_fault : ∀ ds h Q E, sp_head_fault ds h Q E → rd_head_fault (fun x _ h' => E x h') (fin Q) (startD N_head_fault ds) h := by
  rintro ds h Q E ⟨_, kind, d, ns, rfl, sq, l9, sh, q⟩
  show rd_head_fault _ _ [some (.v (.str kind)), some d] h
  unfold rd_head_fault
  have ek : inL (.v (.str kind)) [D.v (.str "line"), D.v (.str "ring"), D.v (.str "box")] = decide (kind ∈ kds) := inL_sD (w := kind) (l := kds)
  unfold headF at q
  try simp -dsimp -implicitDefEqProofs only [↓clx_FigureWords, ↓ers, ↓clx_Moves, ↓clx_Behind, ↓rds17, ↓rds15, ↓rds14, ↓rds13, ↓rds1, ↓rds2, ↓rds3, ↓rds4, ↓rds5, ↓rds6, ↓rds7, ↓rds8, ↓rds9, ↓rds10, ↓rds11, List.set_cons_zero, List.set_cons_succ, ne_eq, not_false_eq_true, decide_eq_true_eq, Bool.or_true, Bool.or_false, Bool.true_or, Bool.false_or, Bool.and_true, Bool.true_and, Bool.and_false, Bool.false_and, Bool.not_true, Bool.not_false, reduceCtorEq, beq_self_eq_true, true_and, and_true, if_true, if_false, Bool.false_eq_true, c_KINDS, ek]
  refine ⟨rfl, rfl, ?_⟩
  by_cases c : kind ∈ kds
  · rw [if_pos c] at q
    rw [decide_eq_true c]
    try simp -dsimp -implicitDefEqProofs only [↓clx_FigureWords, ↓ers, ↓clx_Moves, ↓clx_Behind, ↓rds17, ↓rds15, ↓rds14, ↓rds13, ↓rds1, ↓rds2, ↓rds3, ↓rds4, ↓rds5, ↓rds6, ↓rds7, ↓rds8, ↓rds9, ↓rds10, ↓rds11, List.set_cons_zero, List.set_cons_succ, ne_eq, not_false_eq_true, decide_eq_true_eq, Bool.or_true, Bool.or_false, Bool.true_or, Bool.false_or, Bool.and_true, Bool.true_and, Bool.and_false, Bool.false_and, Bool.not_true, Bool.not_false, reduceCtorEq, beq_self_eq_true, true_and, and_true, if_true, if_false, Bool.false_eq_true]
    refine cl_i ⟨rfl, d, ns, rfl, sq, l9, sh, ?_⟩
    exact finR q
  · rw [if_neg c] at q
    rw [decide_eq_false c]
    try simp -dsimp -implicitDefEqProofs only [↓clx_FigureWords, ↓ers, ↓clx_Moves, ↓clx_Behind, ↓rds17, ↓rds15, ↓rds14, ↓rds13, ↓rds1, ↓rds2, ↓rds3, ↓rds4, ↓rds5, ↓rds6, ↓rds7, ↓rds8, ↓rds9, ↓rds10, ↓rds11, List.set_cons_zero, List.set_cons_succ, ne_eq, not_false_eq_true, decide_eq_true_eq, Bool.or_true, Bool.or_false, Bool.true_or, Bool.false_or, Bool.and_true, Bool.true_and, Bool.and_false, Bool.false_and, Bool.not_true, Bool.not_false, reduceCtorEq, beq_self_eq_true, true_and, and_true, if_true, if_false, Bool.false_eq_true]
    exact finR q
def lotF (kind : Str) : List D → Nat → D
  | [], _ => .v .non
  | d :: r, i => if lotB kind d = true then lotF kind r (i + 1) else .t [sD "lot", .v (.int (i : Int))]
def lotsF (kind : Str) (c : Nat) (ls : List D) : D := if ls.length = nPairs c then lotF kind ls 0 else .t [sD "lots", .v (.int (ls.length : Int))]
def bookF (kind : Str) (ns : List Str) (ls : List D) : D := if noF (headF kind ns) = true then lotsF kind ns.length ls else headF kind ns
def Bk2 (h : Hd) (dn dl : D) (ns : List Str) (ls : List D) : Prop := (dn = .t (ns.map sD) ∧ dl = .t ls) ∨ ∃ a b, dn = .v (.ref a) ∧ dl = .v (.ref b) ∧ h a = some (.lst (ns.map sD)) ∧ h b = some (.lst ls)
def LtD (d : D) : Prop := ∃ ws : List Str, d = .t (ws.map sD) ∧ ws.length ≤ 900 ∧ ∀ w ∈ ws, w.length ≤ 900
theorem LtD.kn {d : D} (l : LtD d) (h : Hd) : KnV h d := by
  obtain ⟨ws, rfl, l9, w9⟩ := l
  refine ⟨trivial, fun xs e => ?_⟩
  cases e
  refine ⟨by rw [List.length_map]; omega, fun x hx => ?_⟩
  obtain ⟨w, hw, rfl⟩ := List.mem_map.mp hx
  exact ⟨trivial, fun z e => by cases e; have := w9 w hw; omega⟩
theorem head_len {kind : Str} {ns : List Str} (h : noF (headF kind ns) = true) : kind ∈ kds ∧ 1 ≤ ns.length ∧ ns.length ≤ 6 := by
  unfold headF at h
  by_cases c : kind ∈ kds
  · rw [if_pos c] at h
    unfold namesF at h
    by_cases d : 1 ≤ ns.length ∧ ns.length ≤ 6
    · exact ⟨c, d⟩
    · rw [if_neg d] at h; cases h
  · rw [if_neg c] at h; cases h
def sp_book_fault : SpD := fun ds h Q _ => ds.length = 3 ∧ ∃ (kind : Str) (dn dl : D) (ns : List Str) (ls : List D), ds = [.v (.str kind), dn, dl] ∧ Bk2 h dn dl ns ls ∧ ns.length ≤ 100 ∧ (∀ n ∈ ns, n.length ≤ 64) ∧ ls.length ≤ 900 ∧ (∀ l ∈ ls, LtD l) ∧ Q (bookF kind ns ls) h
def rd_book_fault (E : ER) : SD :=
  dSeq (dAsg (dCall sp_head_fault E (dCons (dVar 0) (dCons (dVar 1) (dNil)))) (nG 3))
  (dSeq (dIfS (dTest (d2 pIsNotA (dVar 3) (dC (.v .non)))) (dRet (dVar 3)) (dNext))
  (dSeq (dIfS (dTest (d2 pNe (dCB cLen (dCons (dVar 2) (dNil))) (dCB cLen (dCons (dCall sp_number_pairs E (dCons (dCB cLen (dCons (dVar 1) (dNil))) (dNil))) (dNil))))) (dRet (dTup (dCons (dC (.v (.str "lots"))) (dCons (dCB cLen (dCons (dVar 2) (dNil))) (dNil))))) (dNext))
  (dSeq (dFor (iRng1D (dCons (dCB cLen (dCons (dVar 2) (dNil))) (dNil))) (nG 4) (dIfS (dNot (dTest (dCall sp_is_lot E (dCons (dVar 0) (dCons (d2 pIt (dVar 2) (dVar 4)) (dNil)))))) (dRet (dTup (dCons (dC (.v (.str "lot"))) (dCons (dVar 4) (dNil))))) (dNext)))
  (dRet (dC (.v .non))))))
abbrev N_book_fault : List Str := ["kind", "names", "lots", "fault", "at"]
theorem ok_book_fault : ∀ ds h Q E, sp_book_fault ds h Q E → rd_book_fault (fun x _ h' => E x h') (fin Q) (startD N_book_fault ds) h := by
  rintro ds h Q E ⟨_, kind, dn, dl, ns, ls, rfl, bk, l9, sh, ll, lt, q⟩
  show rd_book_fault _ _ [some (.v (.str kind)), some dn, some dl, none, none] h
  unfold rd_book_fault
  have sq : Seq h dn ns := bk.elim (fun e => .inl e.1) fun ⟨a, b, e1, e2, g1, g2⟩ => .inr ⟨a, e1, g1⟩
  have lr := ln_range (n := ls.length) (j := (ls.length : Int)) rfl
  have lf : ∀ i, i < ls.length → lotF kind (ls.drop i) i = if lotB kind (ls.getD i (.v .non)) = true then lotF kind (ls.drop (i + 1)) (i + 1) else .t [sD "lot", .v (.int (i : Int))] := fun i hi => by
    rw [List.drop_eq_getElem_cons hi, List.getD_eq_getElem?_getD, List.getElem?_eq_getElem hi]; rfl
  try simp -dsimp -implicitDefEqProofs only [↓clx_FigureWords, ↓ers, ↓clx_Moves, ↓clx_Behind, ↓rds17, ↓rds15, ↓rds14, ↓rds13, ↓rds1, ↓rds2, ↓rds3, ↓rds4, ↓rds5, ↓rds6, ↓rds7, ↓rds8, ↓rds9, ↓rds10, ↓rds11, List.set_cons_zero, List.set_cons_succ, ne_eq, not_false_eq_true, decide_eq_true_eq, Bool.or_true, Bool.or_false, Bool.true_or, Bool.false_or, Bool.and_true, Bool.true_and, Bool.and_false, Bool.false_and, Bool.not_true, Bool.not_false, reduceCtorEq, beq_self_eq_true, true_and, and_true, if_true, if_false, Bool.false_eq_true]
  refine cl_i ⟨rfl, kind, dn, ns, rfl, sq, l9, sh, ?_⟩
  unfold bookF at q
  rcases head_or kind ns with e | ⟨xs, e⟩
  · have no : noF (headF kind ns) = true := by rw [e]; rfl
    obtain ⟨hk, c1, c6⟩ := head_len no
    have pc := pairsB_count ns.length c6
    rw [if_pos no] at q
    unfold lotsF at q
    rw [e]
    rcases bk with ⟨rfl, rfl⟩ | ⟨a, b, rfl, rfl, ga, gb⟩
    · try simp -dsimp -implicitDefEqProofs only [↓clx_FigureWords, ↓ers, ↓clx_Moves, ↓clx_Behind, ↓rds17, ↓rds15, ↓rds14, ↓rds13, ↓rds1, ↓rds2, ↓rds3, ↓rds4, ↓rds5, ↓rds6, ↓rds7, ↓rds8, ↓rds9, ↓rds10, ↓rds11, List.set_cons_zero, List.set_cons_succ, ne_eq, not_false_eq_true, decide_eq_true_eq, Bool.or_true, Bool.or_false, Bool.true_or, Bool.false_or, Bool.and_true, Bool.true_and, Bool.and_false, Bool.false_and, Bool.not_true, Bool.not_false, reduceCtorEq, beq_self_eq_true, true_and, and_true, if_true, if_false, Bool.false_eq_true, List.length_map]
      refine cl_i ⟨rfl, ns.length, rfl, by omega, fun p hp => ?_⟩
      have s1 := Sub.put (h := h) (o := .lst (pairsB ns.length)) hp
      have gp : put h p (.lst (pairsB ns.length)) p = some (.lst (pairsB ns.length)) := put_same
      generalize put h p (.lst (pairsB ns.length)) = h1 at *
      try simp -dsimp -implicitDefEqProofs only [↓clx_FigureWords, ↓ers, ↓clx_Moves, ↓clx_Behind, ↓rds17, ↓rds15, ↓rds14, ↓rds13, ↓rds1, ↓rds2, ↓rds3, ↓rds4, ↓rds5, ↓rds6, ↓rds7, ↓rds8, ↓rds9, ↓rds10, ↓rds11, List.set_cons_zero, List.set_cons_succ, ne_eq, not_false_eq_true, decide_eq_true_eq, Bool.or_true, Bool.or_false, Bool.true_or, Bool.false_or, Bool.and_true, Bool.true_and, Bool.and_false, Bool.false_and, Bool.not_true, Bool.not_false, reduceCtorEq, beq_self_eq_true, true_and, and_true, if_true, if_false, Bool.false_eq_true, gp]
      rw [pc]
      by_cases cl : ls.length = nPairs ns.length
      · rw [if_pos cl] at q
        refine dIte_neg (by simp [cl]) ?_
        try simp -dsimp -implicitDefEqProofs only [↓clx_FigureWords, ↓ers, ↓clx_Moves, ↓clx_Behind, ↓rds17, ↓rds15, ↓rds14, ↓rds13, ↓rds1, ↓rds2, ↓rds3, ↓rds4, ↓rds5, ↓rds6, ↓rds7, ↓rds8, ↓rds9, ↓rds10, ↓rds11, List.set_cons_zero, List.set_cons_succ, ne_eq, not_false_eq_true, decide_eq_true_eq, Bool.or_true, Bool.or_false, Bool.true_or, Bool.false_or, Bool.and_true, Bool.true_and, Bool.and_false, Bool.false_and, Bool.not_true, Bool.not_false, reduceCtorEq, beq_self_eq_true, true_and, and_true, if_true, if_false, Bool.false_eq_true]
        refine ⟨by omega, loop_of (fun i σ h' => i ≤ ls.length ∧ Sub h h' ∧ lotF kind ls 0 = lotF kind (ls.drop i) i ∧ ∃ v4, σ = [some (.v (.str kind)), some (.t (ns.map sD)), some (.t ls), some (.v .non), v4]) ⟨Nat.zero_le _, s1, rfl, _, rfl⟩ (fun _ _ _ _ _ => trivial) ?_ ?_⟩
        · rintro i x σ h' hx ⟨hi, s', ep, v4, rfl⟩ N hN
          obtain ⟨hi, rfl⟩ := rangeD_get hx
          have hi : i < ls.length := by omega
          have el : atI ls (0 + (i : Int)) = some (ls.getD i (.v .non)) := atI_nat_of (i := i) (by rw [List.getD_eq_getElem?_getD, List.getElem?_eq_getElem hi]; rfl) (by omega)
          have kn := (lt (ls.getD i (.v .non)) (by rw [List.getD_eq_getElem?_getD, List.getElem?_eq_getElem hi]; exact List.getElem_mem hi)).kn h'
          rw [lf i hi] at ep
          try simp -dsimp -implicitDefEqProofs only [↓clx_FigureWords, ↓ers, ↓clx_Moves, ↓clx_Behind, ↓rds17, ↓rds15, ↓rds14, ↓rds13, ↓rds1, ↓rds2, ↓rds3, ↓rds4, ↓rds5, ↓rds6, ↓rds7, ↓rds8, ↓rds9, ↓rds10, ↓rds11, List.set_cons_zero, List.set_cons_succ, ne_eq, not_false_eq_true, decide_eq_true_eq, Bool.or_true, Bool.or_false, Bool.true_or, Bool.false_or, Bool.and_true, Bool.true_and, Bool.and_false, Bool.false_and, Bool.not_true, Bool.not_false, reduceCtorEq, beq_self_eq_true, true_and, and_true, if_true, if_false, Bool.false_eq_true, el]
          refine cl_i ⟨rfl, kind, _, rfl, hk, kn.1, kn.2, ?_⟩
          cases b : lotB kind (ls.getD i (.v .non)) with
          | true =>
            rw [b, if_pos rfl] at ep
            try simp -dsimp -implicitDefEqProofs only [↓clx_FigureWords, ↓ers, ↓clx_Moves, ↓clx_Behind, ↓rds17, ↓rds15, ↓rds14, ↓rds13, ↓rds1, ↓rds2, ↓rds3, ↓rds4, ↓rds5, ↓rds6, ↓rds7, ↓rds8, ↓rds9, ↓rds10, ↓rds11, List.set_cons_zero, List.set_cons_succ, ne_eq, not_false_eq_true, decide_eq_true_eq, Bool.or_true, Bool.or_false, Bool.true_or, Bool.false_or, Bool.and_true, Bool.true_and, Bool.and_false, Bool.false_and, Bool.not_true, Bool.not_false, reduceCtorEq, beq_self_eq_true, true_and, and_true, if_true, if_false, Bool.false_eq_true]
            exact hN _ _ ⟨hi, s', ep, _, rfl⟩
          | false =>
            rw [b, if_neg (by decide)] at ep
            rw [ep] at q
            have ei : (0 : Int) + (i : Int) = (i : Int) := by omega
            try simp -dsimp -implicitDefEqProofs only [↓clx_FigureWords, ↓ers, ↓clx_Moves, ↓clx_Behind, ↓rds17, ↓rds15, ↓rds14, ↓rds13, ↓rds1, ↓rds2, ↓rds3, ↓rds4, ↓rds5, ↓rds6, ↓rds7, ↓rds8, ↓rds9, ↓rds10, ↓rds11, List.set_cons_zero, List.set_cons_succ, ne_eq, not_false_eq_true, decide_eq_true_eq, Bool.or_true, Bool.or_false, Bool.true_or, Bool.false_or, Bool.and_true, Bool.true_and, Bool.and_false, Bool.false_and, Bool.not_true, Bool.not_false, reduceCtorEq, beq_self_eq_true, true_and, and_true, if_true, if_false, Bool.false_eq_true]
            rw [ei]
            exact finI s' q
        · rintro σ h' ⟨hi, s', ep, v4, rfl⟩
          rw [lr, List.drop_length] at ep
          rw [ep] at q
          try simp -dsimp -implicitDefEqProofs only [↓clx_FigureWords, ↓ers, ↓clx_Moves, ↓clx_Behind, ↓rds17, ↓rds15, ↓rds14, ↓rds13, ↓rds1, ↓rds2, ↓rds3, ↓rds4, ↓rds5, ↓rds6, ↓rds7, ↓rds8, ↓rds9, ↓rds10, ↓rds11, List.set_cons_zero, List.set_cons_succ, ne_eq, not_false_eq_true, decide_eq_true_eq, Bool.or_true, Bool.or_false, Bool.true_or, Bool.false_or, Bool.and_true, Bool.true_and, Bool.and_false, Bool.false_and, Bool.not_true, Bool.not_false, reduceCtorEq, beq_self_eq_true, true_and, and_true, if_true, if_false, Bool.false_eq_true]
          exact finI s' q
      · rw [if_neg cl] at q
        refine dIte_pos (by simp; omega) ?_
        try simp -dsimp -implicitDefEqProofs only [↓clx_FigureWords, ↓ers, ↓clx_Moves, ↓clx_Behind, ↓rds17, ↓rds15, ↓rds14, ↓rds13, ↓rds1, ↓rds2, ↓rds3, ↓rds4, ↓rds5, ↓rds6, ↓rds7, ↓rds8, ↓rds9, ↓rds10, ↓rds11, List.set_cons_zero, List.set_cons_succ, ne_eq, not_false_eq_true, decide_eq_true_eq, Bool.or_true, Bool.or_false, Bool.true_or, Bool.false_or, Bool.and_true, Bool.true_and, Bool.and_false, Bool.false_and, Bool.not_true, Bool.not_false, reduceCtorEq, beq_self_eq_true, true_and, and_true, if_true, if_false, Bool.false_eq_true]
        exact finI s1 q
    · try simp -dsimp -implicitDefEqProofs only [↓clx_FigureWords, ↓ers, ↓clx_Moves, ↓clx_Behind, ↓rds17, ↓rds15, ↓rds14, ↓rds13, ↓rds1, ↓rds2, ↓rds3, ↓rds4, ↓rds5, ↓rds6, ↓rds7, ↓rds8, ↓rds9, ↓rds10, ↓rds11, List.set_cons_zero, List.set_cons_succ, ne_eq, not_false_eq_true, decide_eq_true_eq, Bool.or_true, Bool.or_false, Bool.true_or, Bool.false_or, Bool.and_true, Bool.true_and, Bool.and_false, Bool.false_and, Bool.not_true, Bool.not_false, reduceCtorEq, beq_self_eq_true, true_and, and_true, if_true, if_false, Bool.false_eq_true, ga, gb, List.length_map]
      refine cl_i ⟨rfl, ns.length, rfl, by omega, fun p hp => ?_⟩
      have s1 := Sub.put (h := h) (o := .lst (pairsB ns.length)) hp
      have gp : put h p (.lst (pairsB ns.length)) p = some (.lst (pairsB ns.length)) := put_same
      have ga1 := s1 _ _ ga
      have gb1 := s1 _ _ gb
      generalize put h p (.lst (pairsB ns.length)) = h1 at *
      try simp -dsimp -implicitDefEqProofs only [↓clx_FigureWords, ↓ers, ↓clx_Moves, ↓clx_Behind, ↓rds17, ↓rds15, ↓rds14, ↓rds13, ↓rds1, ↓rds2, ↓rds3, ↓rds4, ↓rds5, ↓rds6, ↓rds7, ↓rds8, ↓rds9, ↓rds10, ↓rds11, List.set_cons_zero, List.set_cons_succ, ne_eq, not_false_eq_true, decide_eq_true_eq, Bool.or_true, Bool.or_false, Bool.true_or, Bool.false_or, Bool.and_true, Bool.true_and, Bool.and_false, Bool.false_and, Bool.not_true, Bool.not_false, reduceCtorEq, beq_self_eq_true, true_and, and_true, if_true, if_false, Bool.false_eq_true, ga1, gb1, gp]
      rw [pc]
      by_cases cl : ls.length = nPairs ns.length
      · rw [if_pos cl] at q
        refine dIte_neg (by simp [cl]) ?_
        try simp -dsimp -implicitDefEqProofs only [↓clx_FigureWords, ↓ers, ↓clx_Moves, ↓clx_Behind, ↓rds17, ↓rds15, ↓rds14, ↓rds13, ↓rds1, ↓rds2, ↓rds3, ↓rds4, ↓rds5, ↓rds6, ↓rds7, ↓rds8, ↓rds9, ↓rds10, ↓rds11, List.set_cons_zero, List.set_cons_succ, ne_eq, not_false_eq_true, decide_eq_true_eq, Bool.or_true, Bool.or_false, Bool.true_or, Bool.false_or, Bool.and_true, Bool.true_and, Bool.and_false, Bool.false_and, Bool.not_true, Bool.not_false, reduceCtorEq, beq_self_eq_true, true_and, and_true, if_true, if_false, Bool.false_eq_true, ga1, gb1]
        refine ⟨by omega, loop_of (fun i σ h' => i ≤ ls.length ∧ Sub h h' ∧ lotF kind ls 0 = lotF kind (ls.drop i) i ∧ ∃ v4, σ = [some (.v (.str kind)), some (.v (.ref a)), some (.v (.ref b)), some (.v .non), v4]) ⟨Nat.zero_le _, s1, rfl, _, rfl⟩ (fun _ _ _ _ _ => trivial) ?_ ?_⟩
        · rintro i x σ h' hx ⟨hi, s', ep, v4, rfl⟩ N hN
          obtain ⟨hi, rfl⟩ := rangeD_get hx
          have hi : i < ls.length := by omega
          have el : atI ls (0 + (i : Int)) = some (ls.getD i (.v .non)) := atI_nat_of (i := i) (by rw [List.getD_eq_getElem?_getD, List.getElem?_eq_getElem hi]; rfl) (by omega)
          have kn := (lt (ls.getD i (.v .non)) (by rw [List.getD_eq_getElem?_getD, List.getElem?_eq_getElem hi]; exact List.getElem_mem hi)).kn h'
          have gb2 := s' _ _ gb
          rw [lf i hi] at ep
          try simp -dsimp -implicitDefEqProofs only [↓clx_FigureWords, ↓ers, ↓clx_Moves, ↓clx_Behind, ↓rds17, ↓rds15, ↓rds14, ↓rds13, ↓rds1, ↓rds2, ↓rds3, ↓rds4, ↓rds5, ↓rds6, ↓rds7, ↓rds8, ↓rds9, ↓rds10, ↓rds11, List.set_cons_zero, List.set_cons_succ, ne_eq, not_false_eq_true, decide_eq_true_eq, Bool.or_true, Bool.or_false, Bool.true_or, Bool.false_or, Bool.and_true, Bool.true_and, Bool.and_false, Bool.false_and, Bool.not_true, Bool.not_false, reduceCtorEq, beq_self_eq_true, true_and, and_true, if_true, if_false, Bool.false_eq_true, gb2, el]
          refine cl_i ⟨rfl, kind, _, rfl, hk, kn.1, kn.2, ?_⟩
          cases b : lotB kind (ls.getD i (.v .non)) with
          | true =>
            rw [b, if_pos rfl] at ep
            try simp -dsimp -implicitDefEqProofs only [↓clx_FigureWords, ↓ers, ↓clx_Moves, ↓clx_Behind, ↓rds17, ↓rds15, ↓rds14, ↓rds13, ↓rds1, ↓rds2, ↓rds3, ↓rds4, ↓rds5, ↓rds6, ↓rds7, ↓rds8, ↓rds9, ↓rds10, ↓rds11, List.set_cons_zero, List.set_cons_succ, ne_eq, not_false_eq_true, decide_eq_true_eq, Bool.or_true, Bool.or_false, Bool.true_or, Bool.false_or, Bool.and_true, Bool.true_and, Bool.and_false, Bool.false_and, Bool.not_true, Bool.not_false, reduceCtorEq, beq_self_eq_true, true_and, and_true, if_true, if_false, Bool.false_eq_true]
            exact hN _ _ ⟨hi, s', ep, _, rfl⟩
          | false =>
            rw [b, if_neg (by decide)] at ep
            rw [ep] at q
            have ei : (0 : Int) + (i : Int) = (i : Int) := by omega
            try simp -dsimp -implicitDefEqProofs only [↓clx_FigureWords, ↓ers, ↓clx_Moves, ↓clx_Behind, ↓rds17, ↓rds15, ↓rds14, ↓rds13, ↓rds1, ↓rds2, ↓rds3, ↓rds4, ↓rds5, ↓rds6, ↓rds7, ↓rds8, ↓rds9, ↓rds10, ↓rds11, List.set_cons_zero, List.set_cons_succ, ne_eq, not_false_eq_true, decide_eq_true_eq, Bool.or_true, Bool.or_false, Bool.true_or, Bool.false_or, Bool.and_true, Bool.true_and, Bool.and_false, Bool.false_and, Bool.not_true, Bool.not_false, reduceCtorEq, beq_self_eq_true, true_and, and_true, if_true, if_false, Bool.false_eq_true]
            rw [ei]
            exact finI s' q
        · rintro σ h' ⟨hi, s', ep, v4, rfl⟩
          rw [lr, List.drop_length] at ep
          rw [ep] at q
          try simp -dsimp -implicitDefEqProofs only [↓clx_FigureWords, ↓ers, ↓clx_Moves, ↓clx_Behind, ↓rds17, ↓rds15, ↓rds14, ↓rds13, ↓rds1, ↓rds2, ↓rds3, ↓rds4, ↓rds5, ↓rds6, ↓rds7, ↓rds8, ↓rds9, ↓rds10, ↓rds11, List.set_cons_zero, List.set_cons_succ, ne_eq, not_false_eq_true, decide_eq_true_eq, Bool.or_true, Bool.or_false, Bool.true_or, Bool.false_or, Bool.and_true, Bool.true_and, Bool.and_false, Bool.false_and, Bool.not_true, Bool.not_false, reduceCtorEq, beq_self_eq_true, true_and, and_true, if_true, if_false, Bool.false_eq_true]
          exact finI s' q
      · rw [if_neg cl] at q
        refine dIte_pos (by simp; omega) ?_
        try simp -dsimp -implicitDefEqProofs only [↓clx_FigureWords, ↓ers, ↓clx_Moves, ↓clx_Behind, ↓rds17, ↓rds15, ↓rds14, ↓rds13, ↓rds1, ↓rds2, ↓rds3, ↓rds4, ↓rds5, ↓rds6, ↓rds7, ↓rds8, ↓rds9, ↓rds10, ↓rds11, List.set_cons_zero, List.set_cons_succ, ne_eq, not_false_eq_true, decide_eq_true_eq, Bool.or_true, Bool.or_false, Bool.true_or, Bool.false_or, Bool.and_true, Bool.true_and, Bool.and_false, Bool.false_and, Bool.not_true, Bool.not_false, reduceCtorEq, beq_self_eq_true, true_and, and_true, if_true, if_false, Bool.false_eq_true, ga1, gb1]
        exact finI s1 q
  · have no : noF (headF kind ns) = false := by rw [e]; rfl
    rw [if_neg (by rw [no]; decide)] at q
    rw [e] at q ⊢
    try simp -dsimp -implicitDefEqProofs only [↓clx_FigureWords, ↓ers, ↓clx_Moves, ↓clx_Behind, ↓rds17, ↓rds15, ↓rds14, ↓rds13, ↓rds1, ↓rds2, ↓rds3, ↓rds4, ↓rds5, ↓rds6, ↓rds7, ↓rds8, ↓rds9, ↓rds10, ↓rds11, List.set_cons_zero, List.set_cons_succ, ne_eq, not_false_eq_true, decide_eq_true_eq, Bool.or_true, Bool.or_false, Bool.true_or, Bool.false_or, Bool.and_true, Bool.true_and, Bool.and_false, Bool.false_and, Bool.not_true, Bool.not_false, reduceCtorEq, beq_self_eq_true, true_and, and_true, if_true, if_false, Bool.false_eq_true]
    exact finR q
theorem lot_or (kind : Str) : ∀ (l : List D) (i : Nat), lotF kind l i = .v .non ∨ ∃ xs, lotF kind l i = .t xs
  | [], _ => .inl rfl
  | d :: r, i => by
    unfold lotF
    split
    · exact lot_or kind r (i + 1)
    · exact .inr ⟨_, rfl⟩
theorem book_or (kind : Str) (ns : List Str) (ls : List D) : bookF kind ns ls = .v .non ∨ ∃ xs, bookF kind ns ls = .t xs := by
  unfold bookF lotsF
  split
  · split
    · exact lot_or kind ls 0
    · exact .inr ⟨_, rfl⟩
  · exact head_or kind ns
def bookD (kind : Str) (ns : List Str) (ls : List D) : D := .t [.v (.str kind), .t (ns.map sD), .t ls]
def sp_make_book : SpD := fun ds h Q E => ds.length = 3 ∧ ∃ (kind : Str) (dn dl : D) (ns : List Str) (ls : List D), ds = [.v (.str kind), dn, dl] ∧ Bk2 h dn dl ns ls ∧ ns.length ≤ 100 ∧ (∀ n ∈ ns, n.length ≤ 64) ∧ ls.length ≤ 900 ∧ (∀ l ∈ ls, LtD l) ∧
  (bookF kind ns ls = .v .non → Q (bookD kind ns ls) h) ∧ (∀ xs, bookF kind ns ls = .t xs → E ⟨"BadFault", [("fault", .t xs)]⟩ h)
def rd_make_book (E : ER) : SD :=
  dSeq (dAsg (dCall sp_book_fault E (dCons (dVar 0) (dCons (dVar 1) (dCons (dVar 2) (dNil))))) (nG 3))
  (dSeq (dIfS (dTest (d2 pIsNotA (dVar 3) (dC (.v .non)))) (dRaise "BadFault" ["fault"] E (dCons (dVar 3) (dNil))) (dNext))
  (dRet (dTup (dCons (dVar 0) (dCons (dCB cTuple (dCons (dVar 1) (dNil))) (dCons (dCB cTuple (dCons (dVar 2) (dNil))) (dNil)))))))
abbrev N_make_book : List Str := ["kind", "names", "lots", "fault"]
theorem ok_make_book : ∀ ds h Q E, sp_make_book ds h Q E → rd_make_book (fun x _ h' => E x h') (fin Q) (startD N_make_book ds) h := by
  rintro ds h Q E ⟨_, kind, dn, dl, ns, ls, rfl, bk, l9, sh, ll, lt, q, qe⟩
  show rd_make_book _ _ [some (.v (.str kind)), some dn, some dl, none] h
  unfold rd_make_book
  try simp -dsimp -implicitDefEqProofs only [↓clx_FigureWords, ↓ers, ↓clx_Moves, ↓clx_Behind, ↓rds17, ↓rds15, ↓rds14, ↓rds13, ↓rds1, ↓rds2, ↓rds3, ↓rds4, ↓rds5, ↓rds6, ↓rds7, ↓rds8, ↓rds9, ↓rds10, ↓rds11, List.set_cons_zero, List.set_cons_succ, ne_eq, not_false_eq_true, decide_eq_true_eq, Bool.or_true, Bool.or_false, Bool.true_or, Bool.false_or, Bool.and_true, Bool.true_and, Bool.and_false, Bool.false_and, Bool.not_true, Bool.not_false, reduceCtorEq, beq_self_eq_true, true_and, and_true, if_true, if_false, Bool.false_eq_true]
  refine cl_i ⟨rfl, kind, dn, dl, ns, ls, rfl, bk, l9, sh, ll, lt, ?_⟩
  rcases book_or kind ns ls with e | ⟨xs, e⟩
  · have q := q e
    rw [e]
    try simp -dsimp -implicitDefEqProofs only [↓clx_FigureWords, ↓ers, ↓clx_Moves, ↓clx_Behind, ↓rds17, ↓rds15, ↓rds14, ↓rds13, ↓rds1, ↓rds2, ↓rds3, ↓rds4, ↓rds5, ↓rds6, ↓rds7, ↓rds8, ↓rds9, ↓rds10, ↓rds11, List.set_cons_zero, List.set_cons_succ, ne_eq, not_false_eq_true, decide_eq_true_eq, Bool.or_true, Bool.or_false, Bool.true_or, Bool.false_or, Bool.and_true, Bool.true_and, Bool.and_false, Bool.false_and, Bool.not_true, Bool.not_false, reduceCtorEq, beq_self_eq_true, true_and, and_true, if_true, if_false, Bool.false_eq_true]
    rcases bk with ⟨rfl, rfl⟩ | ⟨a, b, rfl, rfl, ga, gb⟩
    · try simp -dsimp -implicitDefEqProofs only [↓clx_FigureWords, ↓ers, ↓clx_Moves, ↓clx_Behind, ↓rds17, ↓rds15, ↓rds14, ↓rds13, ↓rds1, ↓rds2, ↓rds3, ↓rds4, ↓rds5, ↓rds6, ↓rds7, ↓rds8, ↓rds9, ↓rds10, ↓rds11, List.set_cons_zero, List.set_cons_succ, ne_eq, not_false_eq_true, decide_eq_true_eq, Bool.or_true, Bool.or_false, Bool.true_or, Bool.false_or, Bool.and_true, Bool.true_and, Bool.and_false, Bool.false_and, Bool.not_true, Bool.not_false, reduceCtorEq, beq_self_eq_true, true_and, and_true, if_true, if_false, Bool.false_eq_true]
      exact finR q
    · try simp -dsimp -implicitDefEqProofs only [↓clx_FigureWords, ↓ers, ↓clx_Moves, ↓clx_Behind, ↓rds17, ↓rds15, ↓rds14, ↓rds13, ↓rds1, ↓rds2, ↓rds3, ↓rds4, ↓rds5, ↓rds6, ↓rds7, ↓rds8, ↓rds9, ↓rds10, ↓rds11, List.set_cons_zero, List.set_cons_succ, ne_eq, not_false_eq_true, decide_eq_true_eq, Bool.or_true, Bool.or_false, Bool.true_or, Bool.false_or, Bool.and_true, Bool.true_and, Bool.and_false, Bool.false_and, Bool.not_true, Bool.not_false, reduceCtorEq, beq_self_eq_true, true_and, and_true, if_true, if_false, Bool.false_eq_true, ga, gb]
      exact finR q
  · rw [e]
    try simp -dsimp -implicitDefEqProofs only [↓clx_FigureWords, ↓ers, ↓clx_Moves, ↓clx_Behind, ↓rds17, ↓rds15, ↓rds14, ↓rds13, ↓rds1, ↓rds2, ↓rds3, ↓rds4, ↓rds5, ↓rds6, ↓rds7, ↓rds8, ↓rds9, ↓rds10, ↓rds11, List.set_cons_zero, List.set_cons_succ, ne_eq, not_false_eq_true, decide_eq_true_eq, Bool.or_true, Bool.or_false, Bool.true_or, Bool.false_or, Bool.and_true, Bool.true_and, Bool.and_false, Bool.false_and, Bool.not_true, Bool.not_false, reduceCtorEq, beq_self_eq_true, true_and, and_true, if_true, if_false, Bool.false_eq_true]
    exact qe xs e
def sp_free_book : SpD := fun ds h Q _ => ds.length = 2 ∧ ∃ (kind : Str) (ns : List Str), ds = [.v (.str kind), .t (ns.map sD)] ∧ headF kind ns = .v .non ∧ (∀ n ∈ ns, n.length ≤ 64) ∧ Q (bookD kind ns (List.replicate (nPairs ns.length) (.t ((wsL kind).map sD)))) h
def rd_free_book (E : ER) : SD :=
  dSeq (dAsg (dCall sp_head_fault E (dCons (dVar 0) (dCons (dVar 1) (dNil)))) (nG 2))
  (dSeq (dIfS (dTest (d2 pIsNotA (dVar 2) (dC (.v .non)))) (dRaise "BadFault" ["fault"] E (dCons (dVar 2) (dNil))) (dNext))
  (dRet (dTup (dCons (dVar 0) (dCons (dCB cTuple (dCons (dVar 1) (dNil))) (dCons (dCB cTuple (dCons (dLc (iAnyD (dCall sp_number_pairs E (dCons (dCB cLen (dCons (dVar 1) (dNil))) (dNil)))) (nG 3) (dYes) (dCall sp_ways E0d (dCons (dVar 0) (dNil))) [3]) (dNil))) (dNil)))))))
abbrev N_free_book : List Str := ["kind", "names", "fault", "pair"]
theorem ok_free_book : ∀ ds h Q E, sp_free_book ds h Q E → rd_free_book (fun x _ h' => E x h') (fin Q) (startD N_free_book ds) h := by
  rintro ds h Q E ⟨_, kind, ns, rfl, e, sh, q⟩
  show rd_free_book _ _ [some (.v (.str kind)), some (.t (ns.map sD)), none, none] h
  unfold rd_free_book
  obtain ⟨hk, c1, c6⟩ := head_len (kind := kind) (ns := ns) (by rw [e]; rfl)
  have pc := pairsB_count ns.length c6
  try simp -dsimp -implicitDefEqProofs only [↓clx_FigureWords, ↓ers, ↓clx_Moves, ↓clx_Behind, ↓rds17, ↓rds15, ↓rds14, ↓rds13, ↓rds1, ↓rds2, ↓rds3, ↓rds4, ↓rds5, ↓rds6, ↓rds7, ↓rds8, ↓rds9, ↓rds10, ↓rds11, List.set_cons_zero, List.set_cons_succ, ne_eq, not_false_eq_true, decide_eq_true_eq, Bool.or_true, Bool.or_false, Bool.true_or, Bool.false_or, Bool.and_true, Bool.true_and, Bool.and_false, Bool.false_and, Bool.not_true, Bool.not_false, reduceCtorEq, beq_self_eq_true, true_and, and_true, if_true, if_false, Bool.false_eq_true]
  refine cl_i ⟨rfl, kind, _, ns, rfl, .inl rfl, by omega, sh, ?_⟩
  rw [e]
  try simp -dsimp -implicitDefEqProofs only [↓clx_FigureWords, ↓ers, ↓clx_Moves, ↓clx_Behind, ↓rds17, ↓rds15, ↓rds14, ↓rds13, ↓rds1, ↓rds2, ↓rds3, ↓rds4, ↓rds5, ↓rds6, ↓rds7, ↓rds8, ↓rds9, ↓rds10, ↓rds11, List.set_cons_zero, List.set_cons_succ, ne_eq, not_false_eq_true, decide_eq_true_eq, Bool.or_true, Bool.or_false, Bool.true_or, Bool.false_or, Bool.and_true, Bool.true_and, Bool.and_false, Bool.false_and, Bool.not_true, Bool.not_false, reduceCtorEq, beq_self_eq_true, true_and, and_true, if_true, if_false, Bool.false_eq_true, List.length_map]
  refine cl_i ⟨rfl, ns.length, rfl, by omega, fun p hp => ?_⟩
  have s1 := Sub.put (h := h) (o := .lst (pairsB ns.length)) hp
  have gp : put h p (.lst (pairsB ns.length)) p = some (.lst (pairsB ns.length)) := put_same
  generalize put h p (.lst (pairsB ns.length)) = h1 at *
  have np : nPairs ns.length ≤ 36 := by
    have := pairsB_len ns.length
    have : ns.length * ns.length ≤ 6 * 6 := Nat.mul_le_mul c6 c6
    omega
  try simp -dsimp -implicitDefEqProofs only [↓clx_FigureWords, ↓ers, ↓clx_Moves, ↓clx_Behind, ↓rds17, ↓rds15, ↓rds14, ↓rds13, ↓rds1, ↓rds2, ↓rds3, ↓rds4, ↓rds5, ↓rds6, ↓rds7, ↓rds8, ↓rds9, ↓rds10, ↓rds11, List.set_cons_zero, List.set_cons_succ, ne_eq, not_false_eq_true, decide_eq_true_eq, Bool.or_true, Bool.or_false, Bool.true_or, Bool.false_or, Bool.and_true, Bool.true_and, Bool.and_false, Bool.false_and, Bool.not_true, Bool.not_false, reduceCtorEq, beq_self_eq_true, true_and, and_true, if_true, if_false, Bool.false_eq_true, gp]
  refine cmp_map (fun _ => .t ((wsL kind).map sD)) (rdL_l gp) (by omega) ?_ ?_
  · intro x hx S N hS
    try simp -dsimp -implicitDefEqProofs only [↓clx_FigureWords, ↓ers, ↓clx_Moves, ↓clx_Behind, ↓rds17, ↓rds15, ↓rds14, ↓rds13, ↓rds1, ↓rds2, ↓rds3, ↓rds4, ↓rds5, ↓rds6, ↓rds7, ↓rds8, ↓rds9, ↓rds10, ↓rds11, List.set_cons_zero, List.set_cons_succ, ne_eq, not_false_eq_true, decide_eq_true_eq, Bool.or_true, Bool.or_false, Bool.true_or, Bool.false_or, Bool.and_true, Bool.true_and, Bool.and_false, Bool.false_and, Bool.not_true, Bool.not_false, reduceCtorEq, beq_self_eq_true, true_and, and_true, if_true, if_false, Bool.false_eq_true]
    exact cl_i ⟨rfl, kind, rfl, fun _ => hS, fun no => absurd hk no⟩
  intro z hz
  have em : (pairsB ns.length).map (fun _ => D.t ((wsL kind).map sD)) = List.replicate (nPairs ns.length) (.t ((wsL kind).map sD)) := by
    refine List.eq_replicate_iff.mpr ⟨by rw [List.length_map, pc], fun b hb => ?_⟩
    obtain ⟨_, _, rfl⟩ := List.mem_map.mp hb
    rfl
  rw [em]
  try simp -dsimp -implicitDefEqProofs only [↓clx_FigureWords, ↓ers, ↓clx_Moves, ↓clx_Behind, ↓rds17, ↓rds15, ↓rds14, ↓rds13, ↓rds1, ↓rds2, ↓rds3, ↓rds4, ↓rds5, ↓rds6, ↓rds7, ↓rds8, ↓rds9, ↓rds10, ↓rds11, List.set_cons_zero, List.set_cons_succ, ne_eq, not_false_eq_true, decide_eq_true_eq, Bool.or_true, Bool.or_false, Bool.true_or, Bool.false_or, Bool.and_true, Bool.true_and, Bool.and_false, Bool.false_and, Bool.not_true, Bool.not_false, reduceCtorEq, beq_self_eq_true, true_and, and_true, if_true, if_false, Bool.false_eq_true]
  exact finI (s1.trans (Sub.put hz)) q
end DL
namespace Lk15
open DL PySem L2
def erL : List (Str × List (Str × Bool)) := [("StretchError", [("UnknownKind", true), ("BadFault", true)]), ("BadFault", [("UnknownKind", false), ("BadFault", true)]), ("BadName", [("UnknownKind", false), ("BadFault", false)]), ("BadText", [("UnknownKind", false), ("BadFault", false)]), ("BadWay", [("UnknownKind", false), ("BadFault", false)]), ("SameName", [("UnknownKind", false), ("BadFault", false)]), ("ValueError", [("UnknownKind", true), ("BadFault", true)])]
def erOwn : List Str := ["UnknownKind", "BadFault"]
def erFt : List (Str × Str) := [("BadFault", "fault")]
theorem tb_UnknownKind_StretchError : tabOf erL "UnknownKind" "StretchError" = some true := by decide +kernel
theorem tb_BadFault_StretchError : tabOf erL "BadFault" "StretchError" = some true := by decide +kernel
theorem tb_UnknownKind_BadFault : tabOf erL "UnknownKind" "BadFault" = some false := by decide +kernel
theorem tb_BadFault_BadFault : tabOf erL "BadFault" "BadFault" = some true := by decide +kernel
theorem tb_UnknownKind_BadName : tabOf erL "UnknownKind" "BadName" = some false := by decide +kernel
theorem tb_BadFault_BadName : tabOf erL "BadFault" "BadName" = some false := by decide +kernel
theorem tb_UnknownKind_BadText : tabOf erL "UnknownKind" "BadText" = some false := by decide +kernel
theorem tb_BadFault_BadText : tabOf erL "BadFault" "BadText" = some false := by decide +kernel
theorem tb_UnknownKind_BadWay : tabOf erL "UnknownKind" "BadWay" = some false := by decide +kernel
theorem tb_BadFault_BadWay : tabOf erL "BadFault" "BadWay" = some false := by decide +kernel
theorem tb_UnknownKind_SameName : tabOf erL "UnknownKind" "SameName" = some false := by decide +kernel
theorem tb_BadFault_SameName : tabOf erL "BadFault" "SameName" = some false := by decide +kernel
theorem tb_UnknownKind_ValueError : tabOf erL "UnknownKind" "ValueError" = some true := by decide +kernel
theorem tb_BadFault_ValueError : tabOf erL "BadFault" "ValueError" = some true := by decide +kernel
theorem ow_UnknownKind : ownB erOwn "UnknownKind" = true := by decide +kernel
theorem ow_BadFault : ownB erOwn "BadFault" = true := by decide +kernel
theorem ft_BadFault_fault : ftB erFt "BadFault" "fault" = true := by decide +kernel
def ers := (And.intro @tb_UnknownKind_StretchError (And.intro @tb_BadFault_StretchError (And.intro @tb_UnknownKind_BadFault (And.intro @tb_BadFault_BadFault (And.intro @tb_UnknownKind_BadName (And.intro @tb_BadFault_BadName (And.intro @tb_UnknownKind_BadText (And.intro @tb_BadFault_BadText (And.intro @tb_UnknownKind_BadWay (And.intro @tb_BadFault_BadWay (And.intro @tb_UnknownKind_SameName (And.intro @tb_BadFault_SameName (And.intro @tb_UnknownKind_ValueError (And.intro @tb_BadFault_ValueError (And.intro @ow_UnknownKind (And.intro @ow_BadFault (And.intro @ft_BadFault_fault trivial)))))))))))))))))
def lD (ws : List Str) : D := .t (ws.map sD)
def npS (c i : Nat) : Nat := ((List.range i).map fun k => c - (k + 1)).sum
theorem npS_all : ∀ c : Nat, c ≤ 7 → npS c c = nPairs c := by
  have : ∀ c : Nat, c < 8 → npS c c = nPairs c := by decide
  exact fun c hc => this c (by omega)
theorem npS_succ (c i : Nat) : npS c (i + 1) = npS c i + (c - (i + 1)) := by
  unfold npS
  rw [List.range_succ, List.map_append, List.sum_append]; rfl
theorem npS_le : ∀ c : Nat, c ≤ 7 → ∀ i, i ≤ c → npS c i ≤ 30 := by
  have : ∀ c : Nat, c < 8 → ∀ i, i < c + 1 → npS c i ≤ 30 := by decide
  exact fun c hc i hi => this c (by omega) i (by omega)
def sp_law_drawn_lots : SpD := fun ds h Q _ => ds.length = 3 ∧ ∃ (p q : Addr) (cells : List Int) (kind : Str) (c : Nat), ds = [.v (.ref p), .v (.str kind), .v (.int (c : Int))] ∧ PoolAt h p q cells ∧ kind ∈ kds ∧ c ≤ 6 ∧
  ∀ (r : Addr) (ls : List (List Str)) (h' : Hd), (∀ l ∈ ls, Lot kind l) → ls.length = nPairs c → h r = none → h' r = some (.lst (ls.map lD)) → PoolAt h' p q cells → SubX p h h' → Q (.v (.ref r)) h'
def rd_law_drawn_lots (E : ER) : SD :=
  dSeq (dAsg (dLst (dNil)) (nG 3))
  (dSeq (dFor (iRng1D (dCons (dVar 2) (dNil))) (nG 4) (dFor (iRng2D (dCons (d2 pAdd (dVar 4) (dC (.v (.int 1)))) (dCons (dVar 2) (dNil)))) (nG 5) (dDrop (dBM "list" mAppend (dVar 3) (dCons (dCall sp_law_drawn_lot E (dCons (dVar 0) (dCons (dVar 1) (dCons (dC (.v (.int 5))) (dNil))))) (dNil))))))
  (dRet (dVar 3)))
abbrev N_law_drawn_lots : List Str := ["pool", "kind", "count", "found", "first", "second"]
theorem ok_law_drawn_lots : ∀ ds h Q E, sp_law_drawn_lots ds h Q E → rd_law_drawn_lots (fun x _ h' => E x h') (fin Q) (startD N_law_drawn_lots ds) h := by
  rintro ds h Q E ⟨_, p, q, cells, kind, c, rfl, P, hk, c6, ret⟩
  show rd_law_drawn_lots _ _ [some (.v (.ref p)), some (.v (.str kind)), some (.v (.int (c : Int))), none, none, none] h
  unfold rd_law_drawn_lots
  have lr := ln_range (n := c) (j := (c : Int)) rfl
  try simp -dsimp -implicitDefEqProofs only [↓clx_FigureWords, ↓ers, ↓clx_Moves, ↓clx_Behind, ↓rds17, ↓rds15, ↓rds14, ↓rds13, ↓rds1, ↓rds2, ↓rds3, ↓rds4, ↓rds5, ↓rds6, ↓rds7, ↓rds8, ↓rds9, ↓rds10, ↓rds11, List.set_cons_zero, List.set_cons_succ, ne_eq, not_false_eq_true, decide_eq_true_eq, Bool.or_true, Bool.or_false, Bool.true_or, Bool.false_or, Bool.and_true, Bool.true_and, Bool.and_false, Bool.false_and, Bool.not_true, Bool.not_false, reduceCtorEq, beq_self_eq_true, true_and, and_true, if_true, if_false, Bool.false_eq_true]
  refine al_i fun r hr => ?_
  have nr := pool_ne P hr
  have P0 := pool_keep (o := .lst (([] : List (List Str)).map lD)) P hr
  have x0 : SubX p h (put h r (.lst (([] : List (List Str)).map lD))) := (SubX.refl p h).new hr
  have g0 : put h r (.lst (([] : List (List Str)).map lD)) r = some (.lst (([] : List (List Str)).map lD)) := put_same
  have e0 : put h r (.lst []) = put h r (.lst (([] : List (List Str)).map lD)) := rfl
  rw [e0]
  generalize put h r (.lst (([] : List (List Str)).map lD)) = h0 at P0 x0 g0
  try simp -dsimp -implicitDefEqProofs only [↓clx_FigureWords, ↓ers, ↓clx_Moves, ↓clx_Behind, ↓rds17, ↓rds15, ↓rds14, ↓rds13, ↓rds1, ↓rds2, ↓rds3, ↓rds4, ↓rds5, ↓rds6, ↓rds7, ↓rds8, ↓rds9, ↓rds10, ↓rds11, List.set_cons_zero, List.set_cons_succ, ne_eq, not_false_eq_true, decide_eq_true_eq, Bool.or_true, Bool.or_false, Bool.true_or, Bool.false_or, Bool.and_true, Bool.true_and, Bool.and_false, Bool.false_and, Bool.not_true, Bool.not_false, reduceCtorEq, beq_self_eq_true, true_and, and_true, if_true, if_false, Bool.false_eq_true]
  refine ⟨by omega, loop_of (fun i σ h' => i ≤ c ∧ PoolAt h' p q cells ∧ SubX p h h' ∧ ∃ ls : List (List Str), h' r = some (.lst (ls.map lD)) ∧ (∀ l ∈ ls, Lot kind l) ∧ ls.length = npS c i ∧ ∃ v4 v5, σ = [some (.v (.ref p)), some (.v (.str kind)), some (.v (.int (c : Int))), some (.v (.ref r)), v4, v5])
    ⟨Nat.zero_le _, P0, x0, [], g0, by simp, rfl, _, _, rfl⟩ (fun _ _ _ _ _ => trivial) ?_ ?_⟩
  · rintro i x σ h1 hx ⟨hi, P1, x1, ls, g1, ol, ll, v4, v5, rfl⟩ N hN
    obtain ⟨hi, rfl⟩ := rangeD_get hx
    have hi : i < c := by omega
    have lj : (rangeD (0 + (i : Int) + 1) ((c : Int) - (0 + (i : Int) + 1)).toNat).length = c - (i + 1) := by unfold rangeD; rw [List.length_map, List.length_range]; omega
    have b1 := npS_le c (by omega) (i + 1) hi
    rw [npS_succ] at b1
    try simp -dsimp -implicitDefEqProofs only [↓clx_FigureWords, ↓ers, ↓clx_Moves, ↓clx_Behind, ↓rds17, ↓rds15, ↓rds14, ↓rds13, ↓rds1, ↓rds2, ↓rds3, ↓rds4, ↓rds5, ↓rds6, ↓rds7, ↓rds8, ↓rds9, ↓rds10, ↓rds11, List.set_cons_zero, List.set_cons_succ, ne_eq, not_false_eq_true, decide_eq_true_eq, Bool.or_true, Bool.or_false, Bool.true_or, Bool.false_or, Bool.and_true, Bool.true_and, Bool.and_false, Bool.false_and, Bool.not_true, Bool.not_false, reduceCtorEq, beq_self_eq_true, true_and, and_true, if_true, if_false, Bool.false_eq_true]
    refine ⟨⟨by omega, by omega⟩, ?_⟩
    refine loop_of (fun j σ h' => j ≤ c - (i + 1) ∧ PoolAt h' p q cells ∧ SubX p h h' ∧ ∃ ls : List (List Str), h' r = some (.lst (ls.map lD)) ∧ (∀ l ∈ ls, Lot kind l) ∧ ls.length = npS c i + j ∧ ∃ v5, σ = [some (.v (.ref p)), some (.v (.str kind)), some (.v (.int (c : Int))), some (.v (.ref r)), some (.v (.int (0 + (i : Int)))), v5])
      ⟨Nat.zero_le _, P1, x1, ls, g1, ol, ll, _, rfl⟩ (fun _ _ _ _ _ => trivial) ?_ ?_
    · rintro j y σ h2 hy ⟨hj, P2, x2, ls, g2, ol, ll, v5, rfl⟩ N2 hN2
      have hj : j < c - (i + 1) := by
        have := (List.getElem?_eq_some_iff.mp hy).1
        omega
      try simp -dsimp -implicitDefEqProofs only [↓clx_FigureWords, ↓ers, ↓clx_Moves, ↓clx_Behind, ↓rds17, ↓rds15, ↓rds14, ↓rds13, ↓rds1, ↓rds2, ↓rds3, ↓rds4, ↓rds5, ↓rds6, ↓rds7, ↓rds8, ↓rds9, ↓rds10, ↓rds11, List.set_cons_zero, List.set_cons_succ, ne_eq, not_false_eq_true, decide_eq_true_eq, Bool.or_true, Bool.or_false, Bool.true_or, Bool.false_or, Bool.and_true, Bool.true_and, Bool.and_false, Bool.false_and, Bool.not_true, Bool.not_false, reduceCtorEq, beq_self_eq_true, true_and, and_true, if_true, if_false, Bool.false_eq_true, g2]
      refine cl_i ⟨rfl, p, q, cells, kind, 5, rfl, P2, hk, by decide, by decide, fun ws s lt => ?_⟩
      have P3 := pool_put P2 s
      have x3 := x2.set (o := poolO q s)
      have g3 : put h2 p (poolO q s) r = some (.lst (ls.map lD)) := by rw [put_ne nr.1]; exact g2
      generalize put h2 p (poolO q s) = h3 at P3 x3 g3
      try simp -dsimp -implicitDefEqProofs only [↓clx_FigureWords, ↓ers, ↓clx_Moves, ↓clx_Behind, ↓rds17, ↓rds15, ↓rds14, ↓rds13, ↓rds1, ↓rds2, ↓rds3, ↓rds4, ↓rds5, ↓rds6, ↓rds7, ↓rds8, ↓rds9, ↓rds10, ↓rds11, List.set_cons_zero, List.set_cons_succ, ne_eq, not_false_eq_true, decide_eq_true_eq, Bool.or_true, Bool.or_false, Bool.true_or, Bool.false_or, Bool.and_true, Bool.true_and, Bool.and_false, Bool.false_and, Bool.not_true, Bool.not_false, reduceCtorEq, beq_self_eq_true, true_and, and_true, if_true, if_false, Bool.false_eq_true, g3, List.length_map]
      refine ⟨Nat.lt_of_le_of_lt (show ls.length ≤ 30 by omega) (by decide), hN2 _ _ ⟨hj, ?_, ?_, ls ++ [ws], by rw [put_same, List.map_append]; rfl, fun l hl => ?_, by rw [List.length_append, List.length_singleton]; omega, _, rfl⟩⟩
      · exact ⟨by obtain ⟨st, g⟩ := P3.st; exact ⟨st, by rw [put_ne nr.1.symm]; exact g⟩, by rw [put_ne nr.2.symm]; exact P3.cl, P3.ne, P3.ln⟩
      · intro a u na e
        have : a ≠ r := fun z => by rw [z, hr] at e; cases e
        rw [put_ne this]; exact x3 a u na e
      · rcases List.mem_append.mp hl with k | k
        · exact ol l k
        · rw [List.mem_singleton.mp k]; exact lt
    · rintro σ h2 ⟨hj, P2, x2, ls, g2, ol, ll, v5, rfl⟩
      rw [lj] at ll
      exact hN _ _ ⟨hi, P2, x2, ls, g2, ol, by rw [npS_succ]; exact ll, _, _, rfl⟩
  · rintro σ h1 ⟨hi, P1, x1, ls, g1, ol, ll, v4, v5, rfl⟩
    rw [lr, npS_all c (by omega)] at ll
    try simp -dsimp -implicitDefEqProofs only [↓clx_FigureWords, ↓ers, ↓clx_Moves, ↓clx_Behind, ↓rds17, ↓rds15, ↓rds14, ↓rds13, ↓rds1, ↓rds2, ↓rds3, ↓rds4, ↓rds5, ↓rds6, ↓rds7, ↓rds8, ↓rds9, ↓rds10, ↓rds11, List.set_cons_zero, List.set_cons_succ, ne_eq, not_false_eq_true, decide_eq_true_eq, Bool.or_true, Bool.or_false, Bool.true_or, Bool.false_or, Bool.and_true, Bool.true_and, Bool.and_false, Bool.false_and, Bool.not_true, Bool.not_false, reduceCtorEq, beq_self_eq_true, true_and, and_true, if_true, if_false, Bool.false_eq_true]
    exact finR (ret r ls h1 ol ll hr g1 P1 x1)
theorem nameV_ok {w : Str} (h : NameV w) : nameB w = true := by
  obtain ⟨⟨h1, h2, h3⟩, c, r, e, m⟩ := h
  have al : ∀ d ∈ nameSgn, (isLt d || isFg d) = true := fun d hd => by
    rw [← (sgn_facts d).1, strIn_cp]
    exact decide_eq_true hd
  rw [nameX_cons e, decide_eq_true ⟨h1, h2⟩, show isLt c = true from by unfold isLt; rw [strIn_cp]; exact decide_eq_true m]
  exact List.all_eq_true.mpr fun d hd => al d (h3 d hd)
def NmC (ns : List Str) : Prop := (∀ n ∈ ns, nameB n = true) ∨ ns.Nodup
def NmX (ns : List Str) : Prop := NmC ns ∧ ns.length ≤ 7 ∧ ∀ n ∈ ns, n.length ≤ 64
theorem nodup_set {g : Str} : ∀ {l : List Str} {t : Nat}, l.Nodup → g ∉ l → (l.set t g).Nodup
  | [], _, _, _ => List.nodup_nil
  | x :: r, 0, h, n => by
    obtain ⟨h1, h2⟩ := List.nodup_cons.mp h
    exact List.nodup_cons.mpr ⟨fun m => n (List.mem_cons_of_mem _ m), h2⟩
  | x :: r, t + 1, h, n => by
    obtain ⟨h1, h2⟩ := List.nodup_cons.mp h
    refine List.nodup_cons.mpr ⟨fun m => ?_, nodup_set h2 fun m => n (List.mem_cons_of_mem _ m)⟩
    rcases List.mem_or_eq_of_mem_set m with k | k
    · exact h1 k
    · exact n (by rw [k]; exact List.mem_cons_self)
theorem upper_len {w : Str} (h : NameW w) : (Txt.upper w).length = w.length := by
  have h1 : ∀ c ∈ nameSgn, c < 128 := by decide
  have e := SX.upper_S (a := w.cps.toList) (List.all_eq_true.mpr fun c hc => decide_eq_true (h1 c (h.2.2 c hc)))
  rw [SX.S_tl] at e
  rw [e, SX.S_len, List.length_map, str_len]
theorem sig_at {w : Str} (h : NameV w) {k : Int} (k0 : 0 ≤ k) (k1 : k < 9) : ∃ g : Str, g.length ≤ 64 ∧ atI [D.v (.str ""), D.v (.str "A"), D.v (.str "_"), D.v (.str "7"), D.v (.str (Txt.upper w)), D.v (.str (w ++ "-")), D.v (.str (w ++ "abcdef")), D.v (.str (" " ++ w)), D.v (.str (cutS w none (some 1) ++ "."))] k = some (sD g) := by
  have l6 := h.1.2.1
  have cl := cutS_len w none (some 1)
  have : k = 0 ∨ k = 1 ∨ k = 2 ∨ k = 3 ∨ k = 4 ∨ k = 5 ∨ k = 6 ∨ k = 7 ∨ k = 8 := by omega
  rcases this with rfl | rfl | rfl | rfl | rfl | rfl | rfl | rfl | rfl
  · exact ⟨"", by decide, rfl⟩
  · exact ⟨"A", by decide, rfl⟩
  · exact ⟨"_", by decide, rfl⟩
  · exact ⟨"7", by decide, rfl⟩
  · exact ⟨_, by rw [upper_len h.1]; omega, rfl⟩
  · exact ⟨_, by rw [str_app_len]; show _ + 1 ≤ 64; omega, rfl⟩
  · exact ⟨_, by rw [str_app_len]; show _ + 6 ≤ 64; omega, rfl⟩
  · exact ⟨_, by rw [str_app_len]; show 1 + _ ≤ 64; omega, rfl⟩
  · exact ⟨_, by rw [str_app_len]; show _ + 1 ≤ 64; omega, rfl⟩
theorem before_at {ns : List Str} {t : Nat} (h : t < ns.length) : ∃ g ∈ ns, atI (ns.map sD) ((t : Int) - 1) = some (sD g) := by
  cases t with
  | zero =>
    have ne : ns ≠ [] := fun z => by rw [z] at h; exact absurd h (Nat.not_lt_zero _)
    refine ⟨ns.getLast ne, List.getLast_mem ne, ?_⟩
    show atI (ns.map sD) (-1) = _
    conv => lhs; rw [← List.dropLast_concat_getLast ne, List.map_append]
    exact at_m1
  | succ t =>
    have e := nm_at (ns := ns) (i := t) (j := ((t + 1 : Nat) : Int) - 1) (by omega) (by omega)
    refine ⟨nmAt ns t, ?_, e⟩
    unfold nmAt
    rw [List.getD_eq_getElem?_getD, List.getElem?_eq_getElem (by omega)]
    exact List.getElem_mem _
def sp_law_spoilt_names : SpD := fun ds h Q _ => ds.length = 2 ∧ ∃ (p q a : Addr) (cells : List Int) (ns : List Str), ds = [.v (.ref p), .v (.ref a)] ∧ PoolAt h p q cells ∧ h a = some (.lst (ns.map sD)) ∧ a ≠ p ∧ 1 ≤ ns.length ∧ ns.length ≤ 6 ∧ ns.Nodup ∧ (∀ n ∈ ns, NameV n) ∧
  ∀ (r : Addr) (v : List Str) (h' : Hd), NmX v → h r = none → h' r = some (.lst (v.map sD)) → PoolAt h' p q cells → SubX p h h' → Q (.v (.ref r)) h'
def rd_law_spoilt_names (E : ER) : SD :=
  dSeq (dAsg (dCB cList (dCons (dVar 1) (dNil))) (nG 2))
  (dSeq (dAsg (dCall sp_law_draw E (dCons (dVar 0) (dCons (dCB cLen (dCons (dVar 2) (dNil))) (dNil)))) (nG 3))
  (dSeq (dAsg (dCall sp_law_draw E (dCons (dVar 0) (dCons (dC (.v (.int 5))) (dNil)))) (nG 4))
  (dSeq (dIfS (dTest (d2 pEqA (dVar 4) (dC (.v (.int 0))))) (dRet (dLst (dNil))) (dNext))
  (dSeq (dIfS (dTest (d2 pEqA (dVar 4) (dC (.v (.int 1))))) (dRet (dCB cList (dCons (dCall sp_law_names E (dCons (dVar 0) (dCons (dC (.v (.int 7))) (dNil)))) (dNil)))) (dNext))
  (dSeq (dIfS (dAnd (dTest (d2 pEqA (dVar 4) (dC (.v (.int 2))))) (dTest (d2 pGt (dCB cLen (dCons (dVar 2) (dNil))) (dC (.v (.int 1)))))) (dSeq (dAsg (d2 pIt (dVar 2) (d2 pSub (dVar 3) (dC (.v (.int 1))))) (subG (dVar 2) (dVar 3) setK))
  (dRet (dVar 2))) (dNext))
  (dSeq (dAsg (d2 pIt (dVar 2) (dVar 3)) (nG 5))
  (dSeq (dAsg (dLst (dCons (dC (.v (.str ""))) (dCons (dC (.v (.str "A"))) (dCons (dC (.v (.str "_"))) (dCons (dC (.v (.str "7"))) (dCons (dBM0 "str" mUpper (dVar 5)) (dCons (d2 pAdd (dVar 5) (dC (.v (.str "-")))) (dCons (d2 pAdd (dVar 5) (dC (.v (.str "abcdef")))) (dCons (d2 pAdd (dC (.v (.str " "))) (dVar 5)) (dCons (d2 pAdd (dSl (dVar 5) (dNoPart) (dPart (dC (.v (.int 1))))) (dC (.v (.str ".")))) (dNil))))))))))) (nG 6))
  (dSeq (dAsg (d2 pIt (dVar 6) (dCall sp_law_draw E (dCons (dVar 0) (dCons (dC (.v (.int 9))) (dNil))))) (subG (dVar 2) (dVar 3) setK))
  (dRet (dVar 2))))))))))
abbrev N_law_spoilt_names : List Str := ["pool", "names", "row", "at", "choice", "word", "signs"]
def rdsn (E : ER) : SD :=
  dSeq (dAsg (d2 pIt (dVar 2) (dVar 3)) (nG 5))
  (dSeq (dAsg (dLst (dCons (dC (.v (.str ""))) (dCons (dC (.v (.str "A"))) (dCons (dC (.v (.str "_"))) (dCons (dC (.v (.str "7"))) (dCons (dBM0 "str" mUpper (dVar 5)) (dCons (d2 pAdd (dVar 5) (dC (.v (.str "-")))) (dCons (d2 pAdd (dVar 5) (dC (.v (.str "abcdef")))) (dCons (d2 pAdd (dC (.v (.str " "))) (dVar 5)) (dCons (d2 pAdd (dSl (dVar 5) (dNoPart) (dPart (dC (.v (.int 1))))) (dC (.v (.str ".")))) (dNil))))))))))) (nG 6))
  (dSeq (dAsg (d2 pIt (dVar 6) (dCall sp_law_draw E (dCons (dVar 0) (dCons (dC (.v (.int 9))) (dNil))))) (subG (dVar 2) (dVar 3) setK))
  (dRet (dVar 2))))
theorem ok_law_spoilt_names : ∀ ds h Q E, sp_law_spoilt_names ds h Q E → rd_law_spoilt_names (fun x _ h' => E x h') (fin Q) (startD N_law_spoilt_names ds) h := by
  rintro ds h Q E ⟨_, p, q, a, cells, ns, rfl, P, ga, nap, l1, l6, nd, hn, ret⟩
  show rd_law_spoilt_names _ _ [some (.v (.ref p)), some (.v (.ref a)), none, none, none, none, none] h
  unfold rd_law_spoilt_names
  have lm : (ns.map sD).length = ns.length := List.length_map ..
  try simp -dsimp -implicitDefEqProofs only [↓clx_FigureWords, ↓ers, ↓clx_Moves, ↓clx_Behind, ↓rds17, ↓rds15, ↓rds14, ↓rds13, ↓rds1, ↓rds2, ↓rds3, ↓rds4, ↓rds5, ↓rds6, ↓rds7, ↓rds8, ↓rds9, ↓rds10, ↓rds11, List.set_cons_zero, List.set_cons_succ, ne_eq, not_false_eq_true, decide_eq_true_eq, Bool.or_true, Bool.or_false, Bool.true_or, Bool.false_or, Bool.and_true, Bool.true_and, Bool.and_false, Bool.false_and, Bool.not_true, Bool.not_false, reduceCtorEq, beq_self_eq_true, true_and, and_true, if_true, if_false, Bool.false_eq_true, ga]
  refine al_i fun r hr => ?_
  have nr := pool_ne P hr
  have P0 := pool_keep (o := .lst (ns.map sD)) P hr
  have x0 : SubX p h (put h r (.lst (ns.map sD))) := (SubX.refl p h).new hr
  have g0 : put h r (.lst (ns.map sD)) r = some (.lst (ns.map sD)) := put_same
  generalize put h r (.lst (ns.map sD)) = h0 at P0 x0 g0
  try simp -dsimp -implicitDefEqProofs only [↓clx_FigureWords, ↓ers, ↓clx_Moves, ↓clx_Behind, ↓rds17, ↓rds15, ↓rds14, ↓rds13, ↓rds1, ↓rds2, ↓rds3, ↓rds4, ↓rds5, ↓rds6, ↓rds7, ↓rds8, ↓rds9, ↓rds10, ↓rds11, List.set_cons_zero, List.set_cons_succ, ne_eq, not_false_eq_true, decide_eq_true_eq, Bool.or_true, Bool.or_false, Bool.true_or, Bool.false_or, Bool.and_true, Bool.true_and, Bool.and_false, Bool.false_and, Bool.not_true, Bool.not_false, reduceCtorEq, beq_self_eq_true, true_and, and_true, if_true, if_false, Bool.false_eq_true, g0, List.length_map]
  refine draw_i P0 (by omega) (log_small (by omega) (by omega)) fun t h1 P1 x1 t0 t1 => ?_
  have g1 := x1 _ _ nr.1 g0
  have x1 := x0.trans x1
  obtain ⟨t, rfl⟩ := Int.eq_ofNat_of_zero_le t0
  have ht : t < ns.length := by omega
  try simp -dsimp -implicitDefEqProofs only [↓clx_FigureWords, ↓ers, ↓clx_Moves, ↓clx_Behind, ↓rds17, ↓rds15, ↓rds14, ↓rds13, ↓rds1, ↓rds2, ↓rds3, ↓rds4, ↓rds5, ↓rds6, ↓rds7, ↓rds8, ↓rds9, ↓rds10, ↓rds11, List.set_cons_zero, List.set_cons_succ, ne_eq, not_false_eq_true, decide_eq_true_eq, Bool.or_true, Bool.or_false, Bool.true_or, Bool.false_or, Bool.and_true, Bool.true_and, Bool.and_false, Bool.false_and, Bool.not_true, Bool.not_false, reduceCtorEq, beq_self_eq_true, true_and, and_true, if_true, if_false, Bool.false_eq_true]
  refine draw_i P1 (by decide) (by decide) fun ch h2 P2 x2 c0 c1 => ?_
  have g2 := x2 _ _ nr.1 g1
  have x2 := x1.trans x2
  have rn : ∀ {b : Addr} {hh : Hd}, SubX p h hh → hh b = none → b ≠ p → h b = none := fun {b hh} s n np => by
    cases z : h b with
    | none => rfl
    | some o => rw [s _ _ np z] at n; cases n
  try simp -dsimp -implicitDefEqProofs only [↓clx_FigureWords, ↓ers, ↓clx_Moves, ↓clx_Behind, ↓rds17, ↓rds15, ↓rds14, ↓rds13, ↓rds1, ↓rds2, ↓rds3, ↓rds4, ↓rds5, ↓rds6, ↓rds7, ↓rds8, ↓rds9, ↓rds10, ↓rds11, List.set_cons_zero, List.set_cons_succ, ne_eq, not_false_eq_true, decide_eq_true_eq, Bool.or_true, Bool.or_false, Bool.true_or, Bool.false_or, Bool.and_true, Bool.true_and, Bool.and_false, Bool.false_and, Bool.not_true, Bool.not_false, reduceCtorEq, beq_self_eq_true, true_and, and_true, if_true, if_false, Bool.false_eq_true]
  refine dIte_by (fun e0 => ?_) fun e0 => ?_
  · try simp -dsimp -implicitDefEqProofs only [↓clx_FigureWords, ↓ers, ↓clx_Moves, ↓clx_Behind, ↓rds17, ↓rds15, ↓rds14, ↓rds13, ↓rds1, ↓rds2, ↓rds3, ↓rds4, ↓rds5, ↓rds6, ↓rds7, ↓rds8, ↓rds9, ↓rds10, ↓rds11, List.set_cons_zero, List.set_cons_succ, ne_eq, not_false_eq_true, decide_eq_true_eq, Bool.or_true, Bool.or_false, Bool.true_or, Bool.false_or, Bool.and_true, Bool.true_and, Bool.and_false, Bool.false_and, Bool.not_true, Bool.not_false, reduceCtorEq, beq_self_eq_true, true_and, and_true, if_true, if_false, Bool.false_eq_true]
    refine al_i fun b hb => ?_
    have nb := pool_ne P2 hb
    exact finR (ret b [] _ ⟨.inl (by simp), by simp, by simp⟩ (rn x2 hb nb.1) put_same (pool_keep P2 hb) (x2.new hb))
  try simp -dsimp -implicitDefEqProofs only [↓clx_FigureWords, ↓ers, ↓clx_Moves, ↓clx_Behind, ↓rds17, ↓rds15, ↓rds14, ↓rds13, ↓rds1, ↓rds2, ↓rds3, ↓rds4, ↓rds5, ↓rds6, ↓rds7, ↓rds8, ↓rds9, ↓rds10, ↓rds11, List.set_cons_zero, List.set_cons_succ, ne_eq, not_false_eq_true, decide_eq_true_eq, Bool.or_true, Bool.or_false, Bool.true_or, Bool.false_or, Bool.and_true, Bool.true_and, Bool.and_false, Bool.false_and, Bool.not_true, Bool.not_false, reduceCtorEq, beq_self_eq_true, true_and, and_true, if_true, if_false, Bool.false_eq_true]
  refine dIte_by (fun e1 => ?_) fun e1 => ?_
  · try simp -dsimp -implicitDefEqProofs only [↓clx_FigureWords, ↓ers, ↓clx_Moves, ↓clx_Behind, ↓rds17, ↓rds15, ↓rds14, ↓rds13, ↓rds1, ↓rds2, ↓rds3, ↓rds4, ↓rds5, ↓rds6, ↓rds7, ↓rds8, ↓rds9, ↓rds10, ↓rds11, List.set_cons_zero, List.set_cons_succ, ne_eq, not_false_eq_true, decide_eq_true_eq, Bool.or_true, Bool.or_false, Bool.true_or, Bool.false_or, Bool.and_true, Bool.true_and, Bool.and_false, Bool.false_and, Bool.not_true, Bool.not_false, reduceCtorEq, beq_self_eq_true, true_and, and_true, if_true, if_false, Bool.false_eq_true]
    refine cl_i ⟨rfl, p, q, cells, 7, rfl, P2, by decide, fun v h3 lv nv hv P3 x3 => ?_⟩
    try simp -dsimp -implicitDefEqProofs only [↓clx_FigureWords, ↓ers, ↓clx_Moves, ↓clx_Behind, ↓rds17, ↓rds15, ↓rds14, ↓rds13, ↓rds1, ↓rds2, ↓rds3, ↓rds4, ↓rds5, ↓rds6, ↓rds7, ↓rds8, ↓rds9, ↓rds10, ↓rds11, List.set_cons_zero, List.set_cons_succ, ne_eq, not_false_eq_true, decide_eq_true_eq, Bool.or_true, Bool.or_false, Bool.true_or, Bool.false_or, Bool.and_true, Bool.true_and, Bool.and_false, Bool.false_and, Bool.not_true, Bool.not_false, reduceCtorEq, beq_self_eq_true, true_and, and_true, if_true, if_false, Bool.false_eq_true]
    refine al_i fun b hb => ?_
    have nb := pool_ne P3 hb
    have x3 := x2.trans x3
    exact finR (ret b v _ ⟨.inr nv, by omega, fun n hn => by have := (hv n hn).1.2.1; omega⟩ (rn x3 hb nb.1) put_same (pool_keep P3 hb) (x3.new hb))
  have fin2 : ∀ (v : List Str) (h3 : Hd), PoolAt h3 p q cells → SubX p h h3 → NmX v → (fin Q).rt (.v (.ref r)) (put h3 r (.lst (v.map sD))) := fun v h3 P3 x3 nx => finR (ret r v _ nx hr put_same ⟨by obtain ⟨st, g⟩ := P3.st; exact ⟨st, by rw [put_ne nr.1.symm]; exact g⟩, by rw [put_ne nr.2.symm]; exact P3.cl, P3.ne, P3.ln⟩ (fun y u ny e => by
    have : y ≠ r := fun z => by rw [z, hr] at e; cases e
    rw [put_ne this]; exact x3 y u ny e))
  have ixr : ixN (ns.map sD).length (t : Int) = some t := ix_in (by rw [lm]; exact ht) rfl
  have hs : ∀ w : Str, (ns.map sD).set t (sD w) = (ns.set t w).map sD := fun w => (List.map_set ..).symm
  have set_len : ∀ w : Str, w.length ≤ 64 → ∀ n ∈ ns.set t w, n.length ≤ 64 := fun w hw n hm => by
    rcases List.mem_or_eq_of_mem_set hm with k | k
    · have := (hn n k).1.2.1; omega
    · rw [k]; exact hw
  have rest : ∀ ch : Int, rdsn (fun x _ h' => E x h') (fin Q) [some (.v (.ref p)), some (.v (.ref a)), some (.v (.ref r)), some (.v (.int (t : Int))), some (.v (.int ch)), none, none] h2 := by
    intro ch
    unfold rdsn
    have en := nm_at (ns := ns) (i := t) (j := (t : Int)) ht rfl
    have nw := hn _ (show nmAt ns t ∈ ns by unfold nmAt; rw [List.getD_eq_getElem?_getD, List.getElem?_eq_getElem ht]; exact List.getElem_mem ht)
    have wl := nw.1.2.1
    have big : ∀ n, n ≤ 2000 → n ≤ sizeLine := fun n hn => Nat.le_trans hn (by decide)
    have cl := cutS_len (nmAt ns t) none (some 1)
    try simp -dsimp -implicitDefEqProofs only [↓clx_FigureWords, ↓ers, ↓clx_Moves, ↓clx_Behind, ↓rds17, ↓rds15, ↓rds14, ↓rds13, ↓rds1, ↓rds2, ↓rds3, ↓rds4, ↓rds5, ↓rds6, ↓rds7, ↓rds8, ↓rds9, ↓rds10, ↓rds11, List.set_cons_zero, List.set_cons_succ, ne_eq, not_false_eq_true, decide_eq_true_eq, Bool.or_true, Bool.or_false, Bool.true_or, Bool.false_or, Bool.and_true, Bool.true_and, Bool.and_false, Bool.false_and, Bool.not_true, Bool.not_false, reduceCtorEq, beq_self_eq_true, true_and, and_true, if_true, if_false, Bool.false_eq_true, g2, en, sD]
    generalize hw : nmAt ns t = w at nw wl cl
    refine ⟨Nat.le_trans (show w.length ≤ 100 by omega) (by decide), big _ (by show w.length + 1 ≤ _; omega), big _ (by show w.length + 6 ≤ _; omega), big _ (by show 1 + w.length ≤ _; omega), big _ (by omega), big _ (by show _ + 1 ≤ _; omega), al_i fun y hy => ?_⟩
    have ny := pool_ne P2 hy
    obtain ⟨L, hL⟩ : ∃ L, L = [D.v (.str ""), D.v (.str "A"), D.v (.str "_"), D.v (.str "7"), D.v (.str (Txt.upper w)), D.v (.str (w ++ "-")), D.v (.str (w ++ "abcdef")), D.v (.str (" " ++ w)), D.v (.str (cutS w none (some 1) ++ "."))] := ⟨_, rfl⟩
    rw [← hL]
    have P3 := pool_keep (o := .lst L) P2 hy
    have x3 := x2.new (o := .lst L) hy
    have g3 := Sub.put (o := .lst L) hy _ _ g2
    have gy : put h2 y (.lst L) y = some (.lst L) := put_same
    generalize put h2 y (.lst L) = h3 at P3 x3 g3 gy
    try simp -dsimp -implicitDefEqProofs only [↓clx_FigureWords, ↓ers, ↓clx_Moves, ↓clx_Behind, ↓rds17, ↓rds15, ↓rds14, ↓rds13, ↓rds1, ↓rds2, ↓rds3, ↓rds4, ↓rds5, ↓rds6, ↓rds7, ↓rds8, ↓rds9, ↓rds10, ↓rds11, List.set_cons_zero, List.set_cons_succ, ne_eq, not_false_eq_true, decide_eq_true_eq, Bool.or_true, Bool.or_false, Bool.true_or, Bool.false_or, Bool.and_true, Bool.true_and, Bool.and_false, Bool.false_and, Bool.not_true, Bool.not_false, reduceCtorEq, beq_self_eq_true, true_and, and_true, if_true, if_false, Bool.false_eq_true]
    refine draw_i P3 (by decide) (by decide) fun z h4 P4 x4 z0 z1 => ?_
    have g4 := x4 _ _ nr.1 g3
    have gy4 := x4 _ _ ny.1 gy
    have x4 := x3.trans x4
    obtain ⟨g, lg, eg⟩ := sig_at nw z0 z1
    rw [← hL] at eg
    try simp -dsimp -implicitDefEqProofs only [↓clx_FigureWords, ↓ers, ↓clx_Moves, ↓clx_Behind, ↓rds17, ↓rds15, ↓rds14, ↓rds13, ↓rds1, ↓rds2, ↓rds3, ↓rds4, ↓rds5, ↓rds6, ↓rds7, ↓rds8, ↓rds9, ↓rds10, ↓rds11, List.set_cons_zero, List.set_cons_succ, ne_eq, not_false_eq_true, decide_eq_true_eq, Bool.or_true, Bool.or_false, Bool.true_or, Bool.false_or, Bool.and_true, Bool.true_and, Bool.and_false, Bool.false_and, Bool.not_true, Bool.not_false, reduceCtorEq, beq_self_eq_true, true_and, and_true, if_true, if_false, Bool.false_eq_true, gy4, eg, sD, g4, ixr]
    have hs : (ns.map sD).set t (.v (.str g)) = (ns.set t g).map sD := hs g
    rw [hs]
    refine fin2 _ h4 P4 x4 ⟨?_, by rw [List.length_set]; omega, set_len g lg⟩
    cases bg : nameB g with
    | true =>
      left
      intro n hm
      rcases List.mem_or_eq_of_mem_set hm with k | k
      · exact nameV_ok (hn n k)
      · rw [k]; exact bg
    | false =>
      right
      exact nodup_set nd fun m => by rw [nameV_ok (hn g m)] at bg; cases bg
  try simp -dsimp -implicitDefEqProofs only [↓clx_FigureWords, ↓ers, ↓clx_Moves, ↓clx_Behind, ↓rds17, ↓rds15, ↓rds14, ↓rds13, ↓rds1, ↓rds2, ↓rds3, ↓rds4, ↓rds5, ↓rds6, ↓rds7, ↓rds8, ↓rds9, ↓rds10, ↓rds11, List.set_cons_zero, List.set_cons_succ, ne_eq, not_false_eq_true, decide_eq_true_eq, Bool.or_true, Bool.or_false, Bool.true_or, Bool.false_or, Bool.and_true, Bool.true_and, Bool.and_false, Bool.false_and, Bool.not_true, Bool.not_false, reduceCtorEq, beq_self_eq_true, true_and, and_true, if_true, if_false, Bool.false_eq_true, g2, List.length_map]
  refine dIte_by (fun e2 => ?_) fun e2 => ?_
  · try simp -dsimp -implicitDefEqProofs only [↓clx_FigureWords, ↓ers, ↓clx_Moves, ↓clx_Behind, ↓rds17, ↓rds15, ↓rds14, ↓rds13, ↓rds1, ↓rds2, ↓rds3, ↓rds4, ↓rds5, ↓rds6, ↓rds7, ↓rds8, ↓rds9, ↓rds10, ↓rds11, List.set_cons_zero, List.set_cons_succ, ne_eq, not_false_eq_true, decide_eq_true_eq, Bool.or_true, Bool.or_false, Bool.true_or, Bool.false_or, Bool.and_true, Bool.true_and, Bool.and_false, Bool.false_and, Bool.not_true, Bool.not_false, reduceCtorEq, beq_self_eq_true, true_and, and_true, if_true, if_false, Bool.false_eq_true, g2, List.length_map]
    refine dIte_by (fun e3 => ?_) fun e3 => ?_
    · obtain ⟨g, mg, eg⟩ : ∃ g ∈ ns, atI (ns.map sD) ((t : Int) - 1) = some (sD g) := before_at (by omega)
      try simp -dsimp -implicitDefEqProofs only [↓clx_FigureWords, ↓ers, ↓clx_Moves, ↓clx_Behind, ↓rds17, ↓rds15, ↓rds14, ↓rds13, ↓rds1, ↓rds2, ↓rds3, ↓rds4, ↓rds5, ↓rds6, ↓rds7, ↓rds8, ↓rds9, ↓rds10, ↓rds11, List.set_cons_zero, List.set_cons_succ, ne_eq, not_false_eq_true, decide_eq_true_eq, Bool.or_true, Bool.or_false, Bool.true_or, Bool.false_or, Bool.and_true, Bool.true_and, Bool.and_false, Bool.false_and, Bool.not_true, Bool.not_false, reduceCtorEq, beq_self_eq_true, true_and, and_true, if_true, if_false, Bool.false_eq_true, g2, eg, sD, ixr]
      have hs : (ns.map sD).set t (.v (.str g)) = (ns.set t g).map sD := hs g
      rw [hs]
      refine fin2 _ h2 P2 x2 ⟨.inl fun n hm => ?_, by rw [List.length_set]; omega, set_len g (by have := (hn g mg).1.2.1; omega)⟩
      rcases List.mem_or_eq_of_mem_set hm with k | k
      · exact nameV_ok (hn n k)
      · rw [k]; exact nameV_ok (hn g mg)
    · exact rest ch
  · exact rest ch
theorem ways_short {kind : Str} (hk : kind ∈ kds) : (∀ w ∈ wsL kind, w.length ≤ 2) ∧ 1 ≤ (wsL kind).length ∧ (wsL kind).length ≤ 169 := by
  rcases kds_or hk with rfl | rfl | rfl
  · exact ⟨by decide +kernel, by decide +kernel, by decide +kernel⟩
  · exact ⟨by decide +kernel, by decide +kernel, by decide +kernel⟩
  · exact ⟨by decide +kernel, by decide +kernel, by decide +kernel⟩
def sp_law_spoilt_lot : SpD := fun ds h Q _ => ds.length = 3 ∧ ∃ (p q : Addr) (cells : List Int) (kind : Str) (ws : List Str), ds = [.v (.ref p), .v (.str kind), .t (ws.map sD)] ∧ PoolAt h p q cells ∧ kind ∈ kds ∧ ws.length ≤ 400 ∧ (∀ w ∈ ws, w.length ≤ 900) ∧
  ∀ (v : List Str) (h' : Hd), v.length ≤ 2 * ws.length + 2 → (∀ w ∈ v, w.length ≤ 900) → PoolAt h' p q cells → SubX p h h' → Q (.t (v.map sD)) h'
def rd_law_spoilt_lot (E : ER) : SD :=
  dSeq (dAsg (dCall sp_law_ways E (dCons (dVar 1) (dNil))) (nG 3))
  (dSeq (dAsg (dCall sp_law_draw E (dCons (dVar 0) (dCons (dC (.v (.int 4))) (dNil)))) (nG 4))
  (dSeq (dAsg (dCall sp_law_draw E (dCons (dVar 0) (dCons (d2 pAdd (dCB cLen (dCons (dVar 2) (dNil))) (dC (.v (.int 1)))) (dNil)))) (nG 5))
  (dSeq (dIfS (dTest (d2 pEqA (dVar 4) (dC (.v (.int 0))))) (dRet (d2 pAdd (d2 pAdd (dSl (dVar 2) (dNoPart) (dPart (dVar 5))) (dTup (dCons (d2 pIt (dLst (dCons (dC (.v (.str "x"))) (dCons (dC (.v (.str ""))) (dCons (dC (.v (.str "sss"))) (dCons (dC (.v (.str "iI"))) (dCons (dC (.v (.str "am "))) (dNil))))))) (dCall sp_law_draw E (dCons (dVar 0) (dCons (dC (.v (.int 5))) (dNil))))) (dNil)))) (dSl (dVar 2) (dPart (dVar 5)) (dNoPart)))) (dNext))
  (dSeq (dIfS (dTest (d2 pEqA (dVar 4) (dC (.v (.int 1))))) (dRet (d2 pAdd (d2 pAdd (dTup (dCons (d2 pIt (dVar 3) (d2 pSub (dCB cLen (dCons (dVar 3) (dNil))) (dC (.v (.int 1))))) (dNil))) (dVar 2)) (dTup (dCons (d2 pIt (dVar 3) (dCall sp_law_draw E (dCons (dVar 0) (dCons (dCB cLen (dCons (dVar 3) (dNil))) (dNil))))) (dNil))))) (dNext))
  (dSeq (dIfS (dTest (d2 pEqA (dVar 4) (dC (.v (.int 2))))) (dRet (d2 pAdd (d2 pAdd (dVar 2) (dTup (dCons (d2 pIt (dVar 3) (dC (.v (.int 0)))) (dNil)))) (dVar 2))) (dNext))
  (dRet (d2 pAdd (d2 pAdd (dSl (dVar 2) (dPart (dVar 5)) (dNoPart)) (dTup (dCons (d2 pIt (dVar 3) (dCall sp_law_draw E (dCons (dVar 0) (dCons (dCB cLen (dCons (dVar 3) (dNil))) (dNil))))) (dNil)))) (dSl (dVar 2) (dNoPart) (dPart (dVar 5))))))))))
abbrev N_law_spoilt_lot : List Str := ["pool", "kind", "lot", "every", "choice", "at"]
theorem ok_law_spoilt_lot : ∀ ds h Q E, sp_law_spoilt_lot ds h Q E → rd_law_spoilt_lot (fun x _ h' => E x h') (fin Q) (startD N_law_spoilt_lot ds) h := by
  rintro ds h Q E ⟨_, p, q, cells, kind, ws, rfl, P, hk, lw, wl, ret⟩
  show rd_law_spoilt_lot _ _ [some (.v (.ref p)), some (.v (.str kind)), some (.t (ws.map sD)), none, none, none] h
  unfold rd_law_spoilt_lot
  have lm : (ws.map sD).length = ws.length := List.length_map ..
  try simp -dsimp -implicitDefEqProofs only [↓clx_FigureWords, ↓ers, ↓clx_Moves, ↓clx_Behind, ↓rds17, ↓rds15, ↓rds14, ↓rds13, ↓rds1, ↓rds2, ↓rds3, ↓rds4, ↓rds5, ↓rds6, ↓rds7, ↓rds8, ↓rds9, ↓rds10, ↓rds11, List.set_cons_zero, List.set_cons_succ, ne_eq, not_false_eq_true, decide_eq_true_eq, Bool.or_true, Bool.or_false, Bool.true_or, Bool.false_or, Bool.and_true, Bool.true_and, Bool.and_false, Bool.false_and, Bool.not_true, Bool.not_false, reduceCtorEq, beq_self_eq_true, true_and, and_true, if_true, if_false, Bool.false_eq_true]
  refine cl_i ⟨rfl, kind, rfl, hk, fun r hr => ?_⟩
  have nr := pool_ne P hr
  have P0 := pool_keep (o := .lst ((wsL kind).map sD)) P hr
  have x0 : SubX p h (put h r (.lst ((wsL kind).map sD))) := (SubX.refl p h).new hr
  have g0 : put h r (.lst ((wsL kind).map sD)) r = some (.lst ((wsL kind).map sD)) := put_same
  generalize put h r (.lst ((wsL kind).map sD)) = h0 at P0 x0 g0
  try simp -dsimp -implicitDefEqProofs only [↓clx_FigureWords, ↓ers, ↓clx_Moves, ↓clx_Behind, ↓rds17, ↓rds15, ↓rds14, ↓rds13, ↓rds1, ↓rds2, ↓rds3, ↓rds4, ↓rds5, ↓rds6, ↓rds7, ↓rds8, ↓rds9, ↓rds10, ↓rds11, List.set_cons_zero, List.set_cons_succ, ne_eq, not_false_eq_true, decide_eq_true_eq, Bool.or_true, Bool.or_false, Bool.true_or, Bool.false_or, Bool.and_true, Bool.true_and, Bool.and_false, Bool.false_and, Bool.not_true, Bool.not_false, reduceCtorEq, beq_self_eq_true, true_and, and_true, if_true, if_false, Bool.false_eq_true]
  refine draw_i P0 (by decide) (by decide) fun ch h1 P1 x1 c0 c1 => ?_
  have g1 := x1 _ _ nr.1 g0
  have x1 := x0.trans x1
  try simp -dsimp -implicitDefEqProofs only [↓clx_FigureWords, ↓ers, ↓clx_Moves, ↓clx_Behind, ↓rds17, ↓rds15, ↓rds14, ↓rds13, ↓rds1, ↓rds2, ↓rds3, ↓rds4, ↓rds5, ↓rds6, ↓rds7, ↓rds8, ↓rds9, ↓rds10, ↓rds11, List.set_cons_zero, List.set_cons_succ, ne_eq, not_false_eq_true, decide_eq_true_eq, Bool.or_true, Bool.or_false, Bool.true_or, Bool.false_or, Bool.and_true, Bool.true_and, Bool.and_false, Bool.false_and, Bool.not_true, Bool.not_false, reduceCtorEq, beq_self_eq_true, true_and, and_true, if_true, if_false, Bool.false_eq_true, List.length_map]
  refine draw_i P1 (by omega) (log_small (by omega) (by omega)) fun t h2 P2 x2 t0 t1 => ?_
  have g2 := x2 _ _ nr.1 g1
  have x2 := x1.trans x2
  obtain ⟨t, rfl⟩ := Int.eq_ofNat_of_zero_le t0
  have big : ∀ n, n ≤ 2000 → n ≤ sizeLine := fun n hn => Nat.le_trans hn (by decide)
  obtain ⟨wk, wn⟩ := ways_short hk
  have wz : ∀ {z : Str}, z ∈ wsL kind → z.length ≤ 900 := fun h => by have := wk _ h; omega
  have ct : cutD (ws.map sD) none (some (t : Int)) = (ws.take t).map sD := by rw [cut_take, List.map_take]
  have cd : cutD (ws.map sD) (some (t : Int)) none = (ws.drop t).map sD := by rw [cut_drop, List.map_drop]
  have tl : (ws.take t).length ≤ ws.length := by rw [List.length_take]; omega
  have dl : (ws.drop t).length ≤ ws.length := by rw [List.length_drop]; omega
  have td : (ws.take t).length + (ws.drop t).length = ws.length := by rw [← List.length_append, List.take_append_drop]
  have mt : ∀ w ∈ ws.take t, w.length ≤ 900 := fun w h => wl w (List.mem_of_mem_take h)
  have md : ∀ w ∈ ws.drop t, w.length ≤ 900 := fun w h => wl w (List.mem_of_mem_drop h)
  have three : ∀ (a b c : List Str), (∀ w ∈ a, w.length ≤ 900) → (∀ w ∈ b, w.length ≤ 900) → (∀ w ∈ c, w.length ≤ 900) → ∀ w ∈ a ++ b ++ c, w.length ≤ 900 := fun a b c ha hb hc w hw => by
    rcases List.mem_append.mp hw with k | k
    · rcases List.mem_append.mp k with k | k
      · exact ha w k
      · exact hb w k
    · exact hc w k
  have one : ∀ z : Str, z.length ≤ 900 → ∀ w ∈ [z], w.length ≤ 900 := fun z h w hw => by rw [List.mem_singleton.mp hw]; exact h
  have ap : ∀ (a b c : List Str), a.map sD ++ b.map sD ++ c.map sD = (a ++ b ++ c).map sD := fun a b c => by rw [List.map_append, List.map_append]
  try simp -dsimp -implicitDefEqProofs only [↓clx_FigureWords, ↓ers, ↓clx_Moves, ↓clx_Behind, ↓rds17, ↓rds15, ↓rds14, ↓rds13, ↓rds1, ↓rds2, ↓rds3, ↓rds4, ↓rds5, ↓rds6, ↓rds7, ↓rds8, ↓rds9, ↓rds10, ↓rds11, List.set_cons_zero, List.set_cons_succ, ne_eq, not_false_eq_true, decide_eq_true_eq, Bool.or_true, Bool.or_false, Bool.true_or, Bool.false_or, Bool.and_true, Bool.true_and, Bool.and_false, Bool.false_and, Bool.not_true, Bool.not_false, reduceCtorEq, beq_self_eq_true, true_and, and_true, if_true, if_false, Bool.false_eq_true]
  refine dIte_by (fun e0 => ?_) fun e0 => ?_
  · try simp -dsimp -implicitDefEqProofs only [↓clx_FigureWords, ↓ers, ↓clx_Moves, ↓clx_Behind, ↓rds17, ↓rds15, ↓rds14, ↓rds13, ↓rds1, ↓rds2, ↓rds3, ↓rds4, ↓rds5, ↓rds6, ↓rds7, ↓rds8, ↓rds9, ↓rds10, ↓rds11, List.set_cons_zero, List.set_cons_succ, ne_eq, not_false_eq_true, decide_eq_true_eq, Bool.or_true, Bool.or_false, Bool.true_or, Bool.false_or, Bool.and_true, Bool.true_and, Bool.and_false, Bool.false_and, Bool.not_true, Bool.not_false, reduceCtorEq, beq_self_eq_true, true_and, and_true, if_true, if_false, Bool.false_eq_true]
    refine al_i fun y hy => ?_
    have ny := pool_ne P2 hy
    have P3 := pool_keep (o := .lst [D.v (.str "x"), D.v (.str ""), D.v (.str "sss"), D.v (.str "iI"), D.v (.str "am ")]) P2 hy
    have x3 := x2.new (o := .lst [D.v (.str "x"), D.v (.str ""), D.v (.str "sss"), D.v (.str "iI"), D.v (.str "am ")]) hy
    have gy : put h2 y (.lst [D.v (.str "x"), D.v (.str ""), D.v (.str "sss"), D.v (.str "iI"), D.v (.str "am ")]) y = some (.lst [D.v (.str "x"), D.v (.str ""), D.v (.str "sss"), D.v (.str "iI"), D.v (.str "am ")]) := put_same
    generalize put h2 y (.lst [D.v (.str "x"), D.v (.str ""), D.v (.str "sss"), D.v (.str "iI"), D.v (.str "am ")]) = h3 at P3 x3 gy
    try simp -dsimp -implicitDefEqProofs only [↓clx_FigureWords, ↓ers, ↓clx_Moves, ↓clx_Behind, ↓rds17, ↓rds15, ↓rds14, ↓rds13, ↓rds1, ↓rds2, ↓rds3, ↓rds4, ↓rds5, ↓rds6, ↓rds7, ↓rds8, ↓rds9, ↓rds10, ↓rds11, List.set_cons_zero, List.set_cons_succ, ne_eq, not_false_eq_true, decide_eq_true_eq, Bool.or_true, Bool.or_false, Bool.true_or, Bool.false_or, Bool.and_true, Bool.true_and, Bool.and_false, Bool.false_and, Bool.not_true, Bool.not_false, reduceCtorEq, beq_self_eq_true, true_and, and_true, if_true, if_false, Bool.false_eq_true]
    refine draw_i P3 (by decide) (by decide) fun z h4 P4 x4 z0 z1 => ?_
    have gy4 := x4 _ _ ny.1 gy
    have x4 := x3.trans x4
    obtain ⟨g, lg, eg⟩ : ∃ g : Str, g.length ≤ 900 ∧ atI [D.v (.str "x"), D.v (.str ""), D.v (.str "sss"), D.v (.str "iI"), D.v (.str "am ")] z = some (sD g) := by
      have : z = 0 ∨ z = 1 ∨ z = 2 ∨ z = 3 ∨ z = 4 := by omega
      rcases this with rfl | rfl | rfl | rfl | rfl
      · exact ⟨"x", by decide, rfl⟩
      · exact ⟨"", by decide, rfl⟩
      · exact ⟨"sss", by decide, rfl⟩
      · exact ⟨"iI", by decide, rfl⟩
      · exact ⟨"am ", by decide, rfl⟩
    try simp -dsimp -implicitDefEqProofs only [↓clx_FigureWords, ↓ers, ↓clx_Moves, ↓clx_Behind, ↓rds17, ↓rds15, ↓rds14, ↓rds13, ↓rds1, ↓rds2, ↓rds3, ↓rds4, ↓rds5, ↓rds6, ↓rds7, ↓rds8, ↓rds9, ↓rds10, ↓rds11, List.set_cons_zero, List.set_cons_succ, ne_eq, not_false_eq_true, decide_eq_true_eq, Bool.or_true, Bool.or_false, Bool.true_or, Bool.false_or, Bool.and_true, Bool.true_and, Bool.and_false, Bool.false_and, Bool.not_true, Bool.not_false, reduceCtorEq, beq_self_eq_true, true_and, and_true, if_true, if_false, Bool.false_eq_true, gy4, eg]
    rw [ct, cd]
    have e1 : [sD g] = [g].map sD := rfl
    rw [e1]
    simp only [List.length_append, List.length_map, List.length_singleton, List.length_cons, List.length_nil]
    refine ⟨big _ (by omega), big _ (by omega), ?_⟩
    rw [ap]
    exact finR (ret _ _ (by rw [List.length_append, List.length_append, List.length_singleton]; omega) (three _ _ _ mt (one g lg) md) P4 x4)
  try simp -dsimp -implicitDefEqProofs only [↓clx_FigureWords, ↓ers, ↓clx_Moves, ↓clx_Behind, ↓rds17, ↓rds15, ↓rds14, ↓rds13, ↓rds1, ↓rds2, ↓rds3, ↓rds4, ↓rds5, ↓rds6, ↓rds7, ↓rds8, ↓rds9, ↓rds10, ↓rds11, List.set_cons_zero, List.set_cons_succ, ne_eq, not_false_eq_true, decide_eq_true_eq, Bool.or_true, Bool.or_false, Bool.true_or, Bool.false_or, Bool.and_true, Bool.true_and, Bool.and_false, Bool.false_and, Bool.not_true, Bool.not_false, reduceCtorEq, beq_self_eq_true, true_and, and_true, if_true, if_false, Bool.false_eq_true]
  refine dIte_by (fun e1 => ?_) fun e1 => ?_
  · obtain ⟨y, hy, ey⟩ := at_list (l := wsL kind) (k := ((wsL kind).length : Int) - 1) (by omega) (by omega)
    have e1 : [sD y] = [y].map sD := rfl
    try simp -dsimp -implicitDefEqProofs only [↓clx_FigureWords, ↓ers, ↓clx_Moves, ↓clx_Behind, ↓rds17, ↓rds15, ↓rds14, ↓rds13, ↓rds1, ↓rds2, ↓rds3, ↓rds4, ↓rds5, ↓rds6, ↓rds7, ↓rds8, ↓rds9, ↓rds10, ↓rds11, List.set_cons_zero, List.set_cons_succ, ne_eq, not_false_eq_true, decide_eq_true_eq, Bool.or_true, Bool.or_false, Bool.true_or, Bool.false_or, Bool.and_true, Bool.true_and, Bool.and_false, Bool.false_and, Bool.not_true, Bool.not_false, reduceCtorEq, beq_self_eq_true, true_and, and_true, if_true, if_false, Bool.false_eq_true, g2, List.length_map, ey]
    rw [e1]
    simp only [List.length_append, List.length_map, List.length_singleton, List.length_cons, List.length_nil]
    refine ⟨big _ (by omega), ?_⟩
    refine draw_i P2 (by omega) (log_small (by omega) (by omega)) fun z h4 P4 x4 z0 z1 => ?_
    have g4 := x4 _ _ nr.1 g2
    have x4 := x2.trans x4
    obtain ⟨g, hg, eg⟩ := at_list (l := wsL kind) z0 z1
    have e2 : [sD g] = [g].map sD := rfl
    try simp -dsimp -implicitDefEqProofs only [↓clx_FigureWords, ↓ers, ↓clx_Moves, ↓clx_Behind, ↓rds17, ↓rds15, ↓rds14, ↓rds13, ↓rds1, ↓rds2, ↓rds3, ↓rds4, ↓rds5, ↓rds6, ↓rds7, ↓rds8, ↓rds9, ↓rds10, ↓rds11, List.set_cons_zero, List.set_cons_succ, ne_eq, not_false_eq_true, decide_eq_true_eq, Bool.or_true, Bool.or_false, Bool.true_or, Bool.false_or, Bool.and_true, Bool.true_and, Bool.and_false, Bool.false_and, Bool.not_true, Bool.not_false, reduceCtorEq, beq_self_eq_true, true_and, and_true, if_true, if_false, Bool.false_eq_true, g4, eg]
    rw [e2]
    simp only [List.length_append, List.length_map, List.length_singleton, List.length_cons, List.length_nil]
    refine ⟨big _ (by omega), ?_⟩
    have ea : D.v (.str y) :: (ws.map sD ++ [g].map sD) = ([y] ++ ws ++ [g]).map sD := by simp [sD]
    rw [show ([y].map sD ++ ws.map sD ++ [g].map sD) = ([y] ++ ws ++ [g]).map sD by simp]
    exact finR (ret _ _ (by rw [List.length_append, List.length_append, List.length_singleton, List.length_singleton]; omega) (three _ _ _ (one y (wz hy)) wl (one g (wz hg))) P4 x4)
  try simp -dsimp -implicitDefEqProofs only [↓clx_FigureWords, ↓ers, ↓clx_Moves, ↓clx_Behind, ↓rds17, ↓rds15, ↓rds14, ↓rds13, ↓rds1, ↓rds2, ↓rds3, ↓rds4, ↓rds5, ↓rds6, ↓rds7, ↓rds8, ↓rds9, ↓rds10, ↓rds11, List.set_cons_zero, List.set_cons_succ, ne_eq, not_false_eq_true, decide_eq_true_eq, Bool.or_true, Bool.or_false, Bool.true_or, Bool.false_or, Bool.and_true, Bool.true_and, Bool.and_false, Bool.false_and, Bool.not_true, Bool.not_false, reduceCtorEq, beq_self_eq_true, true_and, and_true, if_true, if_false, Bool.false_eq_true]
  refine dIte_by (fun e2 => ?_) fun e2 => ?_
  · obtain ⟨y, hy, ey⟩ := at_list (l := wsL kind) (k := 0) (by omega) (by omega)
    have e1 : [sD y] = [y].map sD := rfl
    try simp -dsimp -implicitDefEqProofs only [↓clx_FigureWords, ↓ers, ↓clx_Moves, ↓clx_Behind, ↓rds17, ↓rds15, ↓rds14, ↓rds13, ↓rds1, ↓rds2, ↓rds3, ↓rds4, ↓rds5, ↓rds6, ↓rds7, ↓rds8, ↓rds9, ↓rds10, ↓rds11, List.set_cons_zero, List.set_cons_succ, ne_eq, not_false_eq_true, decide_eq_true_eq, Bool.or_true, Bool.or_false, Bool.true_or, Bool.false_or, Bool.and_true, Bool.true_and, Bool.and_false, Bool.false_and, Bool.not_true, Bool.not_false, reduceCtorEq, beq_self_eq_true, true_and, and_true, if_true, if_false, Bool.false_eq_true, g2, ey]
    rw [e1]
    simp only [List.length_append, List.length_map, List.length_singleton, List.length_cons, List.length_nil]
    refine ⟨big _ (by omega), big _ (by omega), ?_⟩
    rw [ap]
    exact finR (ret _ _ (by rw [List.length_append, List.length_append, List.length_singleton]; omega) (three _ _ _ wl (one y (wz hy)) wl) P2 x2)
  try simp -dsimp -implicitDefEqProofs only [↓clx_FigureWords, ↓ers, ↓clx_Moves, ↓clx_Behind, ↓rds17, ↓rds15, ↓rds14, ↓rds13, ↓rds1, ↓rds2, ↓rds3, ↓rds4, ↓rds5, ↓rds6, ↓rds7, ↓rds8, ↓rds9, ↓rds10, ↓rds11, List.set_cons_zero, List.set_cons_succ, ne_eq, not_false_eq_true, decide_eq_true_eq, Bool.or_true, Bool.or_false, Bool.true_or, Bool.false_or, Bool.and_true, Bool.true_and, Bool.and_false, Bool.false_and, Bool.not_true, Bool.not_false, reduceCtorEq, beq_self_eq_true, true_and, and_true, if_true, if_false, Bool.false_eq_true, g2, List.length_map]
  refine draw_i P2 (by omega) (log_small (by omega) (by omega)) fun z h4 P4 x4 z0 z1 => ?_
  have g4 := x4 _ _ nr.1 g2
  have x4 := x2.trans x4
  obtain ⟨g, hg, eg⟩ := at_list (l := wsL kind) z0 z1
  have e2 : [sD g] = [g].map sD := rfl
  try simp -dsimp -implicitDefEqProofs only [↓clx_FigureWords, ↓ers, ↓clx_Moves, ↓clx_Behind, ↓rds17, ↓rds15, ↓rds14, ↓rds13, ↓rds1, ↓rds2, ↓rds3, ↓rds4, ↓rds5, ↓rds6, ↓rds7, ↓rds8, ↓rds9, ↓rds10, ↓rds11, List.set_cons_zero, List.set_cons_succ, ne_eq, not_false_eq_true, decide_eq_true_eq, Bool.or_true, Bool.or_false, Bool.true_or, Bool.false_or, Bool.and_true, Bool.true_and, Bool.and_false, Bool.false_and, Bool.not_true, Bool.not_false, reduceCtorEq, beq_self_eq_true, true_and, and_true, if_true, if_false, Bool.false_eq_true, g4, eg]
  rw [ct, cd, e2]
  simp only [List.length_append, List.length_map, List.length_singleton, List.length_cons, List.length_nil]
  refine ⟨big _ (by omega), big _ (by omega), ?_⟩
  rw [ap]
  exact finR (ret _ _ (by rw [List.length_append, List.length_append, List.length_singleton]; omega) (three _ _ _ md (one g (wz hg)) mt) P4 x4)
theorem pkg_bad {n : Str} {r : List Str} (hb : nameB n = false) : ∀ {pre s : List Str}, (s ++ (pre ++ n :: r)).Nodup → (∀ m ∈ pre, nameB m = true) → pkgF (pre ++ n :: r) s = .t [sD "name", sD n]
  | [], s, _, _ => by
    show (if nameB n = true then _ else _) = _
    rw [hb, if_neg (by decide)]
  | m :: pre, s, h, g => by
    have nm : m ∉ s := fun k => (List.nodup_append.mp h).2.2 m k m List.mem_cons_self rfl
    show (if nameB m = true then (if m ∈ s then _ else pkgF (pre ++ n :: r) (s ++ [m])) else _) = _
    rw [if_pos (g m List.mem_cons_self), if_neg nm]
    refine pkg_bad hb ?_ fun k hk => g k (List.mem_cons_of_mem _ hk)
    rw [List.append_assoc]
    exact h
theorem pairs_int {c : Nat} (h1 : 1 ≤ c) (h6 : c ≤ 6) : (c : Int) * ((c : Int) - 1) / 2 = (nPairs c : Int) := by
  have : c = 1 ∨ c = 2 ∨ c = 3 ∨ c = 4 ∨ c = 5 ∨ c = 6 := by omega
  rcases this with rfl | rfl | rfl | rfl | rfl | rfl <;> rfl
def sp_law_fault : SpD := fun ds h Q _ => ds.length = 3 ∧ ∃ (kind : Str) (a b : Addr) (ns : List Str) (ls : List D), ds = [.v (.str kind), .v (.ref a), .v (.ref b)] ∧ h a = some (.lst (ns.map sD)) ∧ h b = some (.lst ls) ∧ NmX ns ∧ ls.length ≤ 900 ∧ (∀ l ∈ ls, LtD l) ∧ Q (bookF kind ns ls) h
def rd_law_fault (E : ER) : SD :=
  dSeq (dIfS (dTest (d2 pNotMem (dVar 0) (dLst (dCons (dC (.v (.str "line"))) (dCons (dC (.v (.str "ring"))) (dCons (dC (.v (.str "box"))) (dNil))))))) (dRet (dTup (dCons (dC (.v (.str "kind"))) (dCons (dVar 0) (dNil))))) (dNext))
  (dSeq (dIfS (dOr (dTest (d2 pLt (dCB cLen (dCons (dVar 1) (dNil))) (dC (.v (.int 1))))) (dTest (d2 pGt (dCB cLen (dCons (dVar 1) (dNil))) (dC (.v (.int 6)))))) (dRet (dTup (dCons (dC (.v (.str "names"))) (dCons (dCB cLen (dCons (dVar 1) (dNil))) (dNil))))) (dNext))
  (dSeq (dFor (iAnyD (dVar 1)) (nG 3) (dIfS (dNot (dTest (dCall sp_law_is_name E (dCons (dVar 3) (dNil))))) (dRet (dTup (dCons (dC (.v (.str "name"))) (dCons (dVar 3) (dNil))))) (dNext)))
  (dSeq (dFor (iRng1D (dCons (dCB cLen (dCons (dVar 1) (dNil))) (dNil))) (nG 4) (dIfS (dTest (d2 pMem (d2 pIt (dVar 1) (dVar 4)) (dSl (dVar 1) (dNoPart) (dPart (dVar 4))))) (dRet (dTup (dCons (dC (.v (.str "double"))) (dCons (d2 pIt (dVar 1) (dVar 4)) (dNil))))) (dNext)))
  (dSeq (dIfS (dTest (d2 pNe (dCB cLen (dCons (dVar 2) (dNil))) (d2 pFdv (d2 pMul (dCB cLen (dCons (dVar 1) (dNil))) (d2 pSub (dCB cLen (dCons (dVar 1) (dNil))) (dC (.v (.int 1))))) (dC (.v (.int 2)))))) (dRet (dTup (dCons (dC (.v (.str "lots"))) (dCons (dCB cLen (dCons (dVar 2) (dNil))) (dNil))))) (dNext))
  (dSeq (dFor (iRng1D (dCons (dCB cLen (dCons (dVar 2) (dNil))) (dNil))) (nG 4) (dIfS (dNot (dTest (dCall sp_law_is_lot E (dCons (dVar 0) (dCons (d2 pIt (dVar 2) (dVar 4)) (dNil)))))) (dRet (dTup (dCons (dC (.v (.str "lot"))) (dCons (dVar 4) (dNil))))) (dNext)))
  (dRet (dC (.v .non))))))))
abbrev N_law_fault : List Str := ["kind", "names", "lots", "name", "at"]
theorem ok_law_fault : ∀ ds h Q E, sp_law_fault ds h Q E → rd_law_fault (fun x _ h' => E x h') (fin Q) (startD N_law_fault ds) h := by
  rintro ds h Q E ⟨_, kind, a, b, ns, ls, rfl, ga, gb, ⟨nc, l7, sh⟩, ll, lt, q⟩
  show rd_law_fault _ _ [some (.v (.str kind)), some (.v (.ref a)), some (.v (.ref b)), none, none] h
  unfold rd_law_fault
  have lm : (ns.map sD).length = ns.length := List.length_map ..
  have lr := ln_range (n := ns.length) (j := (ns.length : Int)) rfl
  have lr2 := ln_range (n := ls.length) (j := (ls.length : Int)) rfl
  have ek : inL (.v (.str kind)) [D.v (.str "line"), D.v (.str "ring"), D.v (.str "box")] = decide (kind ∈ kds) := inL_sD (w := kind) (l := kds)
  try simp -dsimp -implicitDefEqProofs only [↓clx_FigureWords, ↓ers, ↓clx_Moves, ↓clx_Behind, ↓rds17, ↓rds15, ↓rds14, ↓rds13, ↓rds1, ↓rds2, ↓rds3, ↓rds4, ↓rds5, ↓rds6, ↓rds7, ↓rds8, ↓rds9, ↓rds10, ↓rds11, List.set_cons_zero, List.set_cons_succ, ne_eq, not_false_eq_true, decide_eq_true_eq, Bool.or_true, Bool.or_false, Bool.true_or, Bool.false_or, Bool.and_true, Bool.true_and, Bool.and_false, Bool.false_and, Bool.not_true, Bool.not_false, reduceCtorEq, beq_self_eq_true, true_and, and_true, if_true, if_false, Bool.false_eq_true]
  refine al_i fun y hy => ?_
  have s1 := Sub.put (h := h) (o := .lst [D.v (.str "line"), D.v (.str "ring"), D.v (.str "box")]) hy
  have gy : put h y (.lst [D.v (.str "line"), D.v (.str "ring"), D.v (.str "box")]) y = some (.lst [D.v (.str "line"), D.v (.str "ring"), D.v (.str "box")]) := put_same
  have ga1 := s1 _ _ ga
  have gb1 := s1 _ _ gb
  generalize put h y (.lst [D.v (.str "line"), D.v (.str "ring"), D.v (.str "box")]) = h1 at s1 gy ga1 gb1
  try simp -dsimp -implicitDefEqProofs only [↓clx_FigureWords, ↓ers, ↓clx_Moves, ↓clx_Behind, ↓rds17, ↓rds15, ↓rds14, ↓rds13, ↓rds1, ↓rds2, ↓rds3, ↓rds4, ↓rds5, ↓rds6, ↓rds7, ↓rds8, ↓rds9, ↓rds10, ↓rds11, List.set_cons_zero, List.set_cons_succ, ne_eq, not_false_eq_true, decide_eq_true_eq, Bool.or_true, Bool.or_false, Bool.true_or, Bool.false_or, Bool.and_true, Bool.true_and, Bool.and_false, Bool.false_and, Bool.not_true, Bool.not_false, reduceCtorEq, beq_self_eq_true, true_and, and_true, if_true, if_false, Bool.false_eq_true, gy, ek]
  refine ⟨rfl, rfl, ?_⟩
  by_cases hk : kind ∈ kds
  case neg =>
    have eb : bookF kind ns ls = .t [sD "kind", sD kind] := by
      have hh : headF kind ns = .t [sD "kind", sD kind] := if_neg hk
      unfold bookF
      rw [hh]; rfl
    rw [eb] at q
    rw [decide_eq_false hk]
    try simp -dsimp -implicitDefEqProofs only [↓clx_FigureWords, ↓ers, ↓clx_Moves, ↓clx_Behind, ↓rds17, ↓rds15, ↓rds14, ↓rds13, ↓rds1, ↓rds2, ↓rds3, ↓rds4, ↓rds5, ↓rds6, ↓rds7, ↓rds8, ↓rds9, ↓rds10, ↓rds11, List.set_cons_zero, List.set_cons_succ, ne_eq, not_false_eq_true, decide_eq_true_eq, Bool.or_true, Bool.or_false, Bool.true_or, Bool.false_or, Bool.and_true, Bool.true_and, Bool.and_false, Bool.false_and, Bool.not_true, Bool.not_false, reduceCtorEq, beq_self_eq_true, true_and, and_true, if_true, if_false, Bool.false_eq_true]
    exact finI s1 q
  rw [decide_eq_true hk]
  have hh : headF kind ns = namesF ns := if_pos hk
  have stop : ∀ xs, namesF ns = .t xs → bookF kind ns ls = .t xs := fun xs e => by
    unfold bookF
    rw [hh, e]; rfl
  try simp -dsimp -implicitDefEqProofs only [↓clx_FigureWords, ↓ers, ↓clx_Moves, ↓clx_Behind, ↓rds17, ↓rds15, ↓rds14, ↓rds13, ↓rds1, ↓rds2, ↓rds3, ↓rds4, ↓rds5, ↓rds6, ↓rds7, ↓rds8, ↓rds9, ↓rds10, ↓rds11, List.set_cons_zero, List.set_cons_succ, ne_eq, not_false_eq_true, decide_eq_true_eq, Bool.or_true, Bool.or_false, Bool.true_or, Bool.false_or, Bool.and_true, Bool.true_and, Bool.and_false, Bool.false_and, Bool.not_true, Bool.not_false, reduceCtorEq, beq_self_eq_true, true_and, and_true, if_true, if_false, Bool.false_eq_true, ga1, List.length_map]
  by_cases hc : 1 ≤ ns.length ∧ ns.length ≤ 6
  case neg =>
    have en : namesF ns = .t [sD "names", .v (.int (ns.length : Int))] := if_neg hc
    rw [stop _ en] at q
    refine dIte_by (fun c1 => ?_) fun c1 => ?_
    · try simp -dsimp -implicitDefEqProofs only [↓clx_FigureWords, ↓ers, ↓clx_Moves, ↓clx_Behind, ↓rds17, ↓rds15, ↓rds14, ↓rds13, ↓rds1, ↓rds2, ↓rds3, ↓rds4, ↓rds5, ↓rds6, ↓rds7, ↓rds8, ↓rds9, ↓rds10, ↓rds11, List.set_cons_zero, List.set_cons_succ, ne_eq, not_false_eq_true, decide_eq_true_eq, Bool.or_true, Bool.or_false, Bool.true_or, Bool.false_or, Bool.and_true, Bool.true_and, Bool.and_false, Bool.false_and, Bool.not_true, Bool.not_false, reduceCtorEq, beq_self_eq_true, true_and, and_true, if_true, if_false, Bool.false_eq_true, ga1, List.length_map]
      exact finI s1 q
    · try simp -dsimp -implicitDefEqProofs only [↓clx_FigureWords, ↓ers, ↓clx_Moves, ↓clx_Behind, ↓rds17, ↓rds15, ↓rds14, ↓rds13, ↓rds1, ↓rds2, ↓rds3, ↓rds4, ↓rds5, ↓rds6, ↓rds7, ↓rds8, ↓rds9, ↓rds10, ↓rds11, List.set_cons_zero, List.set_cons_succ, ne_eq, not_false_eq_true, decide_eq_true_eq, Bool.or_true, Bool.or_false, Bool.true_or, Bool.false_or, Bool.and_true, Bool.true_and, Bool.and_false, Bool.false_and, Bool.not_true, Bool.not_false, reduceCtorEq, beq_self_eq_true, true_and, and_true, if_true, if_false, Bool.false_eq_true, ga1, List.length_map]
      refine dIte_pos (by omega) ?_
      try simp -dsimp -implicitDefEqProofs only [↓clx_FigureWords, ↓ers, ↓clx_Moves, ↓clx_Behind, ↓rds17, ↓rds15, ↓rds14, ↓rds13, ↓rds1, ↓rds2, ↓rds3, ↓rds4, ↓rds5, ↓rds6, ↓rds7, ↓rds8, ↓rds9, ↓rds10, ↓rds11, List.set_cons_zero, List.set_cons_succ, ne_eq, not_false_eq_true, decide_eq_true_eq, Bool.or_true, Bool.or_false, Bool.true_or, Bool.false_or, Bool.and_true, Bool.true_and, Bool.and_false, Bool.false_and, Bool.not_true, Bool.not_false, reduceCtorEq, beq_self_eq_true, true_and, and_true, if_true, if_false, Bool.false_eq_true, ga1, List.length_map]
      exact finI s1 q
  have en : namesF ns = pkgF ns [] := if_pos hc
  refine dIte_neg (by omega) ?_
  try simp -dsimp -implicitDefEqProofs only [↓clx_FigureWords, ↓ers, ↓clx_Moves, ↓clx_Behind, ↓rds17, ↓rds15, ↓rds14, ↓rds13, ↓rds1, ↓rds2, ↓rds3, ↓rds4, ↓rds5, ↓rds6, ↓rds7, ↓rds8, ↓rds9, ↓rds10, ↓rds11, List.set_cons_zero, List.set_cons_succ, ne_eq, not_false_eq_true, decide_eq_true_eq, Bool.or_true, Bool.or_false, Bool.true_or, Bool.false_or, Bool.and_true, Bool.true_and, Bool.and_false, Bool.false_and, Bool.not_true, Bool.not_false, reduceCtorEq, beq_self_eq_true, true_and, and_true, if_true, if_false, Bool.false_eq_true, ga1, List.length_map]
  refine dIte_neg (by omega) ?_
  try simp -dsimp -implicitDefEqProofs only [↓clx_FigureWords, ↓ers, ↓clx_Moves, ↓clx_Behind, ↓rds17, ↓rds15, ↓rds14, ↓rds13, ↓rds1, ↓rds2, ↓rds3, ↓rds4, ↓rds5, ↓rds6, ↓rds7, ↓rds8, ↓rds9, ↓rds10, ↓rds11, List.set_cons_zero, List.set_cons_succ, ne_eq, not_false_eq_true, decide_eq_true_eq, Bool.or_true, Bool.or_false, Bool.true_or, Bool.false_or, Bool.and_true, Bool.true_and, Bool.and_false, Bool.false_and, Bool.not_true, Bool.not_false, reduceCtorEq, beq_self_eq_true, true_and, and_true, if_true, if_false, Bool.false_eq_true, ga1]
  refine loop_of (fun i σ h' => h' = h1 ∧ (∀ m ∈ ns.take i, nameB m = true) ∧ ∃ v3, σ = [some (.v (.str kind)), some (.v (.ref a)), some (.v (.ref b)), v3, none]) ⟨rfl, by simp, _, rfl⟩ (fun _ _ _ _ hh => rdL_l (by rw [hh.1]; exact ga1)) ?_ ?_
  · rintro i x σ h' hx ⟨rfl, hp, v3, rfl⟩ N hN
    rw [List.getElem?_map] at hx
    cases ew : ns[i]? with
    | none => rw [ew] at hx; cases hx
    | some w =>
      rw [ew] at hx
      cases hx
      have mw := List.mem_of_getElem? ew
      have hi := (List.getElem?_eq_some_iff.mp ew).1
      try simp -dsimp -implicitDefEqProofs only [↓clx_FigureWords, ↓ers, ↓clx_Moves, ↓clx_Behind, ↓rds17, ↓rds15, ↓rds14, ↓rds13, ↓rds1, ↓rds2, ↓rds3, ↓rds4, ↓rds5, ↓rds6, ↓rds7, ↓rds8, ↓rds9, ↓rds10, ↓rds11, List.set_cons_zero, List.set_cons_succ, ne_eq, not_false_eq_true, decide_eq_true_eq, Bool.or_true, Bool.or_false, Bool.true_or, Bool.false_or, Bool.and_true, Bool.true_and, Bool.and_false, Bool.false_and, Bool.not_true, Bool.not_false, reduceCtorEq, beq_self_eq_true, true_and, and_true, if_true, if_false, Bool.false_eq_true, sD]
      refine cl_i ⟨rfl, w, rfl, sh w mw, ?_⟩
      cases bw : nameB w with
      | true =>
        try simp -dsimp -implicitDefEqProofs only [↓clx_FigureWords, ↓ers, ↓clx_Moves, ↓clx_Behind, ↓rds17, ↓rds15, ↓rds14, ↓rds13, ↓rds1, ↓rds2, ↓rds3, ↓rds4, ↓rds5, ↓rds6, ↓rds7, ↓rds8, ↓rds9, ↓rds10, ↓rds11, List.set_cons_zero, List.set_cons_succ, ne_eq, not_false_eq_true, decide_eq_true_eq, Bool.or_true, Bool.or_false, Bool.true_or, Bool.false_or, Bool.and_true, Bool.true_and, Bool.and_false, Bool.false_and, Bool.not_true, Bool.not_false, reduceCtorEq, beq_self_eq_true, true_and, and_true, if_true, if_false, Bool.false_eq_true]
        refine hN _ _ ⟨rfl, fun m hm => ?_, _, rfl⟩
        rw [List.take_add_one, ew] at hm
        rcases List.mem_append.mp hm with k | k
        · exact hp m k
        · rw [List.mem_singleton.mp k]; exact bw
      | false =>
        have nd : ns.Nodup := nc.resolve_left fun g => by rw [g w mw] at bw; cases bw
        have es : ns = ns.take i ++ w :: ns.drop (i + 1) := by
          conv => lhs; rw [← List.take_append_drop i ns, List.drop_eq_getElem_cons hi, (List.getElem?_eq_some_iff.mp ew).2]
        have pb : pkgF ns [] = .t [sD "name", sD w] := by
          have := pkg_bad (n := w) (r := ns.drop (i + 1)) bw (pre := ns.take i) (s := []) (by rw [List.nil_append, ← es]; exact nd) hp
          rw [← es] at this
          exact this
        rw [stop _ (en.trans pb)] at q
        try simp -dsimp -implicitDefEqProofs only [↓clx_FigureWords, ↓ers, ↓clx_Moves, ↓clx_Behind, ↓rds17, ↓rds15, ↓rds14, ↓rds13, ↓rds1, ↓rds2, ↓rds3, ↓rds4, ↓rds5, ↓rds6, ↓rds7, ↓rds8, ↓rds9, ↓rds10, ↓rds11, List.set_cons_zero, List.set_cons_succ, ne_eq, not_false_eq_true, decide_eq_true_eq, Bool.or_true, Bool.or_false, Bool.true_or, Bool.false_or, Bool.and_true, Bool.true_and, Bool.and_false, Bool.false_and, Bool.not_true, Bool.not_false, reduceCtorEq, beq_self_eq_true, true_and, and_true, if_true, if_false, Bool.false_eq_true, sD]
        exact finI s1 q
  rintro σ h' ⟨rfl, hp, v3, rfl⟩
  have hp : ∀ m ∈ ns, nameB m = true := fun m hm => hp m (by rw [lm, List.take_of_length_le (Nat.le_refl _)]; exact hm)
  try simp -dsimp -implicitDefEqProofs only [↓clx_FigureWords, ↓ers, ↓clx_Moves, ↓clx_Behind, ↓rds17, ↓rds15, ↓rds14, ↓rds13, ↓rds1, ↓rds2, ↓rds3, ↓rds4, ↓rds5, ↓rds6, ↓rds7, ↓rds8, ↓rds9, ↓rds10, ↓rds11, List.set_cons_zero, List.set_cons_succ, ne_eq, not_false_eq_true, decide_eq_true_eq, Bool.or_true, Bool.or_false, Bool.true_or, Bool.false_or, Bool.and_true, Bool.true_and, Bool.and_false, Bool.false_and, Bool.not_true, Bool.not_false, reduceCtorEq, beq_self_eq_true, true_and, and_true, if_true, if_false, Bool.false_eq_true, ga1, List.length_map]
  refine ⟨by omega, loop_of (fun i σ h2 => i ≤ ns.length ∧ Sub h h2 ∧ pkgF ns [] = pkgF (ns.drop i) (ns.take i) ∧ ∃ v4, σ = [some (.v (.str kind)), some (.v (.ref a)), some (.v (.ref b)), v3, v4]) ⟨Nat.zero_le _, s1, rfl, _, rfl⟩ (fun _ _ _ _ _ => trivial) ?_ ?_⟩
  · rintro i x σ h2 hx ⟨hi, s2, ep, v4, rfl⟩ N hN
    obtain ⟨hi, rfl⟩ := rangeD_get hx
    have hi : i < ns.length := by omega
    have ga2 := s2 _ _ ga
    have enm := nm_at (ns := ns) (i := i) (j := 0 + (i : Int)) hi (by omega)
    have mw : nmAt ns i ∈ ns := by unfold nmAt; rw [List.getD_eq_getElem?_getD, List.getElem?_eq_getElem hi]; exact List.getElem_mem hi
    rw [pkg_at hi, if_pos (hp _ mw)] at ep
    have ct : cutD (ns.map sD) none (some (0 + (i : Int))) = (ns.take i).map sD := by rw [Int.zero_add, cut_take, List.map_take]
    have fl : ((ns.take i).map sD).all flatD = true := flat_sD _
    try simp -dsimp -implicitDefEqProofs only [↓clx_FigureWords, ↓ers, ↓clx_Moves, ↓clx_Behind, ↓rds17, ↓rds15, ↓rds14, ↓rds13, ↓rds1, ↓rds2, ↓rds3, ↓rds4, ↓rds5, ↓rds6, ↓rds7, ↓rds8, ↓rds9, ↓rds10, ↓rds11, List.set_cons_zero, List.set_cons_succ, ne_eq, not_false_eq_true, decide_eq_true_eq, Bool.or_true, Bool.or_false, Bool.true_or, Bool.false_or, Bool.and_true, Bool.true_and, Bool.and_false, Bool.false_and, Bool.not_true, Bool.not_false, reduceCtorEq, beq_self_eq_true, true_and, and_true, if_true, if_false, Bool.false_eq_true, ga2, enm, sD]
    refine al_i fun z hz => ?_
    rw [ct]
    have s3 := s2.trans (Sub.put (o := .lst ((ns.take i).map sD)) hz)
    have ga3 := Sub.put (o := .lst ((ns.take i).map sD)) hz _ _ ga2
    have gz : put h2 z (.lst ((ns.take i).map sD)) z = some (.lst ((ns.take i).map sD)) := put_same
    generalize put h2 z (.lst ((ns.take i).map sD)) = h3 at s3 ga3 gz
    try simp -dsimp -implicitDefEqProofs only [↓clx_FigureWords, ↓ers, ↓clx_Moves, ↓clx_Behind, ↓rds17, ↓rds15, ↓rds14, ↓rds13, ↓rds1, ↓rds2, ↓rds3, ↓rds4, ↓rds5, ↓rds6, ↓rds7, ↓rds8, ↓rds9, ↓rds10, ↓rds11, List.set_cons_zero, List.set_cons_succ, ne_eq, not_false_eq_true, decide_eq_true_eq, Bool.or_true, Bool.or_false, Bool.true_or, Bool.false_or, Bool.and_true, Bool.true_and, Bool.and_false, Bool.false_and, Bool.not_true, Bool.not_false, reduceCtorEq, beq_self_eq_true, true_and, and_true, if_true, if_false, Bool.false_eq_true, ga3, gz, enm, sD, fl, inL_sD]
    refine ⟨rfl, dIte_by (fun c => ?_) fun c => ?_⟩
    · rw [if_pos c] at ep
      rw [stop _ (en.trans ep)] at q
      try simp -dsimp -implicitDefEqProofs only [↓clx_FigureWords, ↓ers, ↓clx_Moves, ↓clx_Behind, ↓rds17, ↓rds15, ↓rds14, ↓rds13, ↓rds1, ↓rds2, ↓rds3, ↓rds4, ↓rds5, ↓rds6, ↓rds7, ↓rds8, ↓rds9, ↓rds10, ↓rds11, List.set_cons_zero, List.set_cons_succ, ne_eq, not_false_eq_true, decide_eq_true_eq, Bool.or_true, Bool.or_false, Bool.true_or, Bool.false_or, Bool.and_true, Bool.true_and, Bool.and_false, Bool.false_and, Bool.not_true, Bool.not_false, reduceCtorEq, beq_self_eq_true, true_and, and_true, if_true, if_false, Bool.false_eq_true, ga3, enm, sD]
      exact finI s3 q
    · rw [if_neg c] at ep
      try simp -dsimp -implicitDefEqProofs only [↓clx_FigureWords, ↓ers, ↓clx_Moves, ↓clx_Behind, ↓rds17, ↓rds15, ↓rds14, ↓rds13, ↓rds1, ↓rds2, ↓rds3, ↓rds4, ↓rds5, ↓rds6, ↓rds7, ↓rds8, ↓rds9, ↓rds10, ↓rds11, List.set_cons_zero, List.set_cons_succ, ne_eq, not_false_eq_true, decide_eq_true_eq, Bool.or_true, Bool.or_false, Bool.true_or, Bool.false_or, Bool.and_true, Bool.true_and, Bool.and_false, Bool.false_and, Bool.not_true, Bool.not_false, reduceCtorEq, beq_self_eq_true, true_and, and_true, if_true, if_false, Bool.false_eq_true]
      exact hN _ _ ⟨hi, s3, ep, _, rfl⟩
  rintro σ h2 ⟨hi, s2, ep, v4, rfl⟩
  rw [lr, List.drop_length] at ep
  have e0 : headF kind ns = .v .non := hh.trans (en.trans ep)
  have ga2 := s2 _ _ ga
  have gb2 := s2 _ _ gb
  have eb : bookF kind ns ls = lotsF kind ns.length ls := by
    unfold bookF
    rw [e0]; rfl
  rw [eb] at q
  unfold lotsF at q
  have pi := pairs_int hc.1 hc.2
  have mo : mulOk (ns.length : Int) ((ns.length : Int) - 1) := mulOk_l _ (by omega)
  have lf : ∀ i, i < ls.length → lotF kind (ls.drop i) i = if lotB kind (ls.getD i (.v .non)) = true then lotF kind (ls.drop (i + 1)) (i + 1) else .t [sD "lot", .v (.int (i : Int))] := fun i hi => by
    rw [List.drop_eq_getElem_cons hi, List.getD_eq_getElem?_getD, List.getElem?_eq_getElem hi]; rfl
  try simp -dsimp -implicitDefEqProofs only [↓clx_FigureWords, ↓ers, ↓clx_Moves, ↓clx_Behind, ↓rds17, ↓rds15, ↓rds14, ↓rds13, ↓rds1, ↓rds2, ↓rds3, ↓rds4, ↓rds5, ↓rds6, ↓rds7, ↓rds8, ↓rds9, ↓rds10, ↓rds11, List.set_cons_zero, List.set_cons_succ, ne_eq, not_false_eq_true, decide_eq_true_eq, Bool.or_true, Bool.or_false, Bool.true_or, Bool.false_or, Bool.and_true, Bool.true_and, Bool.and_false, Bool.false_and, Bool.not_true, Bool.not_false, reduceCtorEq, beq_self_eq_true, true_and, and_true, if_true, if_false, Bool.false_eq_true, ga2, gb2, List.length_map]
  refine ⟨mo, ⟨by decide, by decide⟩, ?_⟩
  rw [pi]
  by_cases cl : ls.length = nPairs ns.length
  case neg =>
    rw [if_neg cl] at q
    refine dIte_pos (by simp; omega) ?_
    try simp -dsimp -implicitDefEqProofs only [↓clx_FigureWords, ↓ers, ↓clx_Moves, ↓clx_Behind, ↓rds17, ↓rds15, ↓rds14, ↓rds13, ↓rds1, ↓rds2, ↓rds3, ↓rds4, ↓rds5, ↓rds6, ↓rds7, ↓rds8, ↓rds9, ↓rds10, ↓rds11, List.set_cons_zero, List.set_cons_succ, ne_eq, not_false_eq_true, decide_eq_true_eq, Bool.or_true, Bool.or_false, Bool.true_or, Bool.false_or, Bool.and_true, Bool.true_and, Bool.and_false, Bool.false_and, Bool.not_true, Bool.not_false, reduceCtorEq, beq_self_eq_true, true_and, and_true, if_true, if_false, Bool.false_eq_true, gb2]
    exact finI s2 q
  rw [if_pos cl] at q
  refine dIte_neg (by simp [cl]) ?_
  try simp -dsimp -implicitDefEqProofs only [↓clx_FigureWords, ↓ers, ↓clx_Moves, ↓clx_Behind, ↓rds17, ↓rds15, ↓rds14, ↓rds13, ↓rds1, ↓rds2, ↓rds3, ↓rds4, ↓rds5, ↓rds6, ↓rds7, ↓rds8, ↓rds9, ↓rds10, ↓rds11, List.set_cons_zero, List.set_cons_succ, ne_eq, not_false_eq_true, decide_eq_true_eq, Bool.or_true, Bool.or_false, Bool.true_or, Bool.false_or, Bool.and_true, Bool.true_and, Bool.and_false, Bool.false_and, Bool.not_true, Bool.not_false, reduceCtorEq, beq_self_eq_true, true_and, and_true, if_true, if_false, Bool.false_eq_true, gb2]
  refine ⟨by omega, loop_of (fun i σ h' => i ≤ ls.length ∧ Sub h h' ∧ lotF kind ls 0 = lotF kind (ls.drop i) i ∧ ∃ v4, σ = [some (.v (.str kind)), some (.v (.ref a)), some (.v (.ref b)), v3, v4]) ⟨Nat.zero_le _, s2, rfl, _, rfl⟩ (fun _ _ _ _ _ => trivial) ?_ ?_⟩
  · rintro i x σ h3 hx ⟨hi, s3, ep, v4, rfl⟩ N hN
    obtain ⟨hi, rfl⟩ := rangeD_get hx
    have hi : i < ls.length := by omega
    have el : atI ls (0 + (i : Int)) = some (ls.getD i (.v .non)) := atI_nat_of (i := i) (by rw [List.getD_eq_getElem?_getD, List.getElem?_eq_getElem hi]; rfl) (by omega)
    have kn := (lt (ls.getD i (.v .non)) (by rw [List.getD_eq_getElem?_getD, List.getElem?_eq_getElem hi]; exact List.getElem_mem hi)).kn h3
    have gb3 := s3 _ _ gb
    rw [lf i hi] at ep
    try simp -dsimp -implicitDefEqProofs only [↓clx_FigureWords, ↓ers, ↓clx_Moves, ↓clx_Behind, ↓rds17, ↓rds15, ↓rds14, ↓rds13, ↓rds1, ↓rds2, ↓rds3, ↓rds4, ↓rds5, ↓rds6, ↓rds7, ↓rds8, ↓rds9, ↓rds10, ↓rds11, List.set_cons_zero, List.set_cons_succ, ne_eq, not_false_eq_true, decide_eq_true_eq, Bool.or_true, Bool.or_false, Bool.true_or, Bool.false_or, Bool.and_true, Bool.true_and, Bool.and_false, Bool.false_and, Bool.not_true, Bool.not_false, reduceCtorEq, beq_self_eq_true, true_and, and_true, if_true, if_false, Bool.false_eq_true, gb3, el]
    refine cl_i ⟨rfl, kind, _, rfl, hk, kn, ?_⟩
    cases bl : lotB kind (ls.getD i (.v .non)) with
    | true =>
      rw [bl, if_pos rfl] at ep
      try simp -dsimp -implicitDefEqProofs only [↓clx_FigureWords, ↓ers, ↓clx_Moves, ↓clx_Behind, ↓rds17, ↓rds15, ↓rds14, ↓rds13, ↓rds1, ↓rds2, ↓rds3, ↓rds4, ↓rds5, ↓rds6, ↓rds7, ↓rds8, ↓rds9, ↓rds10, ↓rds11, List.set_cons_zero, List.set_cons_succ, ne_eq, not_false_eq_true, decide_eq_true_eq, Bool.or_true, Bool.or_false, Bool.true_or, Bool.false_or, Bool.and_true, Bool.true_and, Bool.and_false, Bool.false_and, Bool.not_true, Bool.not_false, reduceCtorEq, beq_self_eq_true, true_and, and_true, if_true, if_false, Bool.false_eq_true]
      exact hN _ _ ⟨hi, s3, ep, _, rfl⟩
    | false =>
      rw [bl, if_neg (by decide)] at ep
      rw [ep] at q
      have ei : (0 : Int) + (i : Int) = (i : Int) := by omega
      try simp -dsimp -implicitDefEqProofs only [↓clx_FigureWords, ↓ers, ↓clx_Moves, ↓clx_Behind, ↓rds17, ↓rds15, ↓rds14, ↓rds13, ↓rds1, ↓rds2, ↓rds3, ↓rds4, ↓rds5, ↓rds6, ↓rds7, ↓rds8, ↓rds9, ↓rds10, ↓rds11, List.set_cons_zero, List.set_cons_succ, ne_eq, not_false_eq_true, decide_eq_true_eq, Bool.or_true, Bool.or_false, Bool.true_or, Bool.false_or, Bool.and_true, Bool.true_and, Bool.and_false, Bool.false_and, Bool.not_true, Bool.not_false, reduceCtorEq, beq_self_eq_true, true_and, and_true, if_true, if_false, Bool.false_eq_true]
      rw [ei]
      exact finI s3 q
  · rintro σ h3 ⟨hi, s3, ep, v4, rfl⟩
    rw [lr2, List.drop_length] at ep
    rw [ep] at q
    try simp -dsimp -implicitDefEqProofs only [↓clx_FigureWords, ↓ers, ↓clx_Moves, ↓clx_Behind, ↓rds17, ↓rds15, ↓rds14, ↓rds13, ↓rds1, ↓rds2, ↓rds3, ↓rds4, ↓rds5, ↓rds6, ↓rds7, ↓rds8, ↓rds9, ↓rds10, ↓rds11, List.set_cons_zero, List.set_cons_succ, ne_eq, not_false_eq_true, decide_eq_true_eq, Bool.or_true, Bool.or_false, Bool.true_or, Bool.false_or, Bool.and_true, Bool.true_and, Bool.and_false, Bool.false_and, Bool.not_true, Bool.not_false, reduceCtorEq, beq_self_eq_true, true_and, and_true, if_true, if_false, Bool.false_eq_true]
    exact finI s3 q
def madeD (kind : Str) (ns : List Str) (ls : List D) : D := if noF (bookF kind ns ls) = true then .t [sD "told", bookD kind ns ls] else .t [sD "bad", bookF kind ns ls, .v (.bl true)]
def sp_law_made : SpD := fun ds h Q _ => ds.length = 3 ∧ ∃ (kind : Str) (dn dl : D) (ns : List Str) (ls : List D), ds = [.v (.str kind), dn, dl] ∧ Bk2 h dn dl ns ls ∧ ns.length ≤ 100 ∧ (∀ n ∈ ns, n.length ≤ 64) ∧ ls.length ≤ 900 ∧ (∀ l ∈ ls, LtD l) ∧ Q (madeD kind ns ls) h
def rd_law_made (E : ER) : SD :=
  dTry (fun E => dRet (dTup (dCons (dC (.v (.str "told"))) (dCons (dCall sp_make_book E (dCons (dVar 0) (dCons (dVar 1) (dCons (dVar 2) (dNil))))) (dNil))))) (tabOf erL) [("BadFault", some 3, fun ea x => dSeq (dAsg (dXis 3 ea x erOwn (tabOf erL) ["BadName", "BadText", "BadWay", "SameName"]) (nG 4))
  (dRet (dTup (dCons (dC (.v (.str "bad"))) (dCons (dXf 3 ea x erFt "fault") (dCons (dAndV (dXi 3 ea x erOwn (tabOf erL) "StretchError") (dAndV (dXi 3 ea x erOwn (tabOf erL) "ValueError") (dNotV (dVar 4)))) (dNil))))))), ("StretchError", none, fun ea x => dRet (dTup (dCons (dC (.v (.str "other"))) (dNil))))] E
abbrev N_law_made : List Str := ["kind", "names", "lots", "e", "odd"]
theorem ok_law_made : ∀ ds h Q E, sp_law_made ds h Q E → rd_law_made (fun x _ h' => E x h') (fin Q) (startD N_law_made ds) h := by
  rintro ds h Q E ⟨_, kind, dn, dl, ns, ls, rfl, bk, l9, sh, ll, lt, q⟩
  show rd_law_made _ _ [some (.v (.str kind)), some dn, some dl, none, none] h
  unfold rd_law_made
  try simp -dsimp -implicitDefEqProofs only [↓clx_FigureWords, ↓ers, ↓clx_Moves, ↓clx_Behind, ↓rds17, ↓rds15, ↓rds14, ↓rds13, ↓rds1, ↓rds2, ↓rds3, ↓rds4, ↓rds5, ↓rds6, ↓rds7, ↓rds8, ↓rds9, ↓rds10, ↓rds11, List.set_cons_zero, List.set_cons_succ, ne_eq, not_false_eq_true, decide_eq_true_eq, Bool.or_true, Bool.or_false, Bool.true_or, Bool.false_or, Bool.and_true, Bool.true_and, Bool.and_false, Bool.false_and, Bool.not_true, Bool.not_false, reduceCtorEq, beq_self_eq_true, true_and, and_true, if_true, if_false, Bool.false_eq_true]
  refine cl_i ⟨rfl, kind, dn, dl, ns, ls, rfl, bk, l9, sh, ll, lt, fun e => ?_, fun xs e => ?_⟩
  · have em : madeD kind ns ls = .t [sD "told", bookD kind ns ls] := by
      unfold madeD
      rw [e]; rfl
    rw [em] at q
    try simp -dsimp -implicitDefEqProofs only [↓clx_FigureWords, ↓ers, ↓clx_Moves, ↓clx_Behind, ↓rds17, ↓rds15, ↓rds14, ↓rds13, ↓rds1, ↓rds2, ↓rds3, ↓rds4, ↓rds5, ↓rds6, ↓rds7, ↓rds8, ↓rds9, ↓rds10, ↓rds11, List.set_cons_zero, List.set_cons_succ, ne_eq, not_false_eq_true, decide_eq_true_eq, Bool.or_true, Bool.or_false, Bool.true_or, Bool.false_or, Bool.and_true, Bool.true_and, Bool.and_false, Bool.false_and, Bool.not_true, Bool.not_false, reduceCtorEq, beq_self_eq_true, true_and, and_true, if_true, if_false, Bool.false_eq_true]
    exact finR q
  · have em : madeD kind ns ls = .t [sD "bad", .t xs, .v (.bl true)] := by
      unfold madeD
      rw [e]; rfl
    rw [em] at q
    refine hE_hit_as tb_BadFault_BadFault fun a ha => ?_
    try simp -dsimp -implicitDefEqProofs only [↓clx_FigureWords, ↓ers, ↓clx_Moves, ↓clx_Behind, ↓rds17, ↓rds15, ↓rds14, ↓rds13, ↓rds1, ↓rds2, ↓rds3, ↓rds4, ↓rds5, ↓rds6, ↓rds7, ↓rds8, ↓rds9, ↓rds10, ↓rds11, List.set_cons_zero, List.set_cons_succ, ne_eq, not_false_eq_true, decide_eq_true_eq, Bool.or_true, Bool.or_false, Bool.true_or, Bool.false_or, Bool.and_true, Bool.true_and, Bool.and_false, Bool.false_and, Bool.not_true, Bool.not_false, reduceCtorEq, beq_self_eq_true, true_and, and_true, if_true, if_false, Bool.false_eq_true]
    exact finR q
theorem smD_two (n : Nat) (x y : D) (h1 : smD n x) (h2 : smD n y) : smD (n + 1) (.t [x, y]) := ⟨by show 2 < 2 ^ 60; decide, fun z hz => by
  rcases List.mem_cons.mp hz with e | hz
  · rw [e]; exact h1
  · rw [List.mem_singleton.mp hz]; exact h2⟩
theorem smD_three (n : Nat) (x y w : D) (h1 : smD n x) (h2 : smD n y) (h3 : smD n w) : smD (n + 1) (.t [x, y, w]) := ⟨by show 3 < 2 ^ 60; decide, fun z hz => by
  rcases List.mem_cons.mp hz with e | hz
  · rw [e]; exact h1
  rcases List.mem_cons.mp hz with e | hz
  · rw [e]; exact h2
  · rw [List.mem_singleton.mp hz]; exact h3⟩
theorem smD_pkg (n : Nat) : ∀ (l s : List Str), smD (n + 2) (pkgF l s)
  | [], _ => rfl
  | m :: r, s => by
    unfold pkgF
    split
    · split
      · exact smD_two (n + 1) _ _ rfl rfl
      · exact smD_pkg n r _
    · exact smD_two (n + 1) _ _ rfl rfl
theorem smD_lot (n : Nat) (kind : Str) : ∀ (l : List D) (i : Nat), smD (n + 2) (lotF kind l i)
  | [], _ => rfl
  | d :: r, i => by
    unfold lotF
    split
    · exact smD_lot n kind r (i + 1)
    · exact smD_two (n + 1) _ _ rfl rfl
theorem smD_head (n : Nat) (kind : Str) (ns : List Str) : smD (n + 2) (headF kind ns) := by
  unfold headF namesF
  split
  · split
    · exact smD_pkg n _ _
    · exact smD_two (n + 1) _ _ rfl rfl
  · exact smD_two (n + 1) _ _ rfl rfl
theorem smD_book (n : Nat) (kind : Str) (ns : List Str) (ls : List D) : smD (n + 2) (bookF kind ns ls) := by
  unfold bookF lotsF
  split
  · split
    · exact smD_lot n kind ls 0
    · exact smD_two (n + 1) _ _ rfl rfl
  · exact smD_head n kind ns
theorem smD_strs (n : Nat) {ws : List Str} (h : ws.length ≤ 1000) : smD (n + 2) (.t (ws.map sD)) := ⟨by rw [List.length_map]; exact Nat.lt_of_le_of_lt h (by decide), fun y hy => by
  obtain ⟨w, _, rfl⟩ := List.mem_map.mp hy
  exact rfl⟩
theorem smD_bookD (n : Nat) {kind : Str} {ns : List Str} {ls : List (List Str)} (h1 : ns.length ≤ 1000) (h2 : ls.length ≤ 1000) (h3 : ∀ l ∈ ls, l.length ≤ 1000) : smD (n + 4) (bookD kind ns (ls.map lD)) := by
  refine smD_three (n + 3) _ _ _ rfl (smD_strs (n + 1) h1) ⟨by rw [List.length_map]; exact Nat.lt_of_le_of_lt h2 (by decide), fun y hy => ?_⟩
  obtain ⟨l, hl, rfl⟩ := List.mem_map.mp hy
  exact smD_strs n (h3 l hl)
theorem smD_made {kind : Str} {ns : List Str} {ls : List (List Str)} (h1 : ns.length ≤ 1000) (h2 : ls.length ≤ 1000) (h3 : ∀ l ∈ ls, l.length ≤ 1000) : smD 5 (madeD kind ns (ls.map lD)) := by
  unfold madeD
  split
  · exact smD_two 4 _ _ rfl (smD_bookD 0 h1 h2 h3)
  · exact smD_three 4 _ _ _ rfl (smD_book 2 _ _ _) rfl
theorem same_lists {h : Hd} {n : Nat} {a b : Addr} {l : List D} (ha : h a = some (.lst l)) (hb : h b = some (.lst l)) (hl : l.length ≤ 1000) (hs : ∀ d ∈ l, smD n d) : sameB h (n + 1) (.v (.ref a)) (.v (.ref b)) :=
  ⟨a, _, _, rfl, ha, hb, rfl, Nat.lt_of_le_of_lt hl (by decide), fun i x y h1 h2 => by
    rw [h1] at h2
    cases h2
    exact same_refl (hs x (List.mem_of_getElem? h1))⟩
def LsOk (m : Nat) (ls : List (List Str)) : Prop := ls.length ≤ 30 ∧ ∀ l ∈ ls, l.length ≤ m ∧ ∀ w ∈ l, w.length ≤ 900
theorem lsD {m : Nat} {ls : List (List Str)} (hm : m ≤ 900) (h : LsOk m ls) : (ls.map lD).length ≤ 900 ∧ ∀ d ∈ ls.map lD, LtD d := by
  refine ⟨by rw [List.length_map]; have := h.1; omega, fun d hd => ?_⟩
  obtain ⟨l, hl, rfl⟩ := List.mem_map.mp hd
  exact ⟨l, rfl, by have := (h.2 l hl).1; omega, (h.2 l hl).2⟩
theorem kinds3 {k : Int} (k0 : 0 ≤ k) (k1 : k < 3) : ∃ kind ∈ kds, atI [D.v (.str "line"), D.v (.str "ring"), D.v (.str "box")] k = some (sD kind) := by
  have : k = 0 ∨ k = 1 ∨ k = 2 := by omega
  rcases this with rfl | rfl | rfl
  · exact ⟨"line", by decide, rfl⟩
  · exact ⟨"ring", by decide, rfl⟩
  · exact ⟨"box", by decide, rfl⟩
def KS : List Str := ["Line", "rings", "", "bo", "boxes", "LINE", "arc", " ring"]
def rd_law (E : ER) : SD :=
  dSeq (dAsg (dCall sp_law_pool E (dCons (dVar 0) (dNil))) (nG 1))
  (dSeq (dAsg (d2 pIt (dLst (dCons (dC (.v (.str "line"))) (dCons (dC (.v (.str "ring"))) (dCons (dC (.v (.str "box"))) (dNil))))) (dCall sp_law_draw E (dCons (dVar 1) (dCons (dC (.v (.int 3))) (dNil))))) (nG 2))
  (dSeq (dAsg (dCB cList (dCons (dCall sp_law_names E (dCons (dVar 1) (dCons (d2 pAdd (dC (.v (.int 1))) (dCall sp_law_draw E (dCons (dVar 1) (dCons (dIf (dTest (d2 pEqA (dVar 2) (dC (.v (.str "box"))))) (dC (.v (.int 3))) (dC (.v (.int 6)))) (dNil))))) (dNil)))) (dNil))) (nG 3))
  (dSeq (dAsg (dCall sp_law_drawn_lots E (dCons (dVar 1) (dCons (dVar 2) (dCons (dCB cLen (dCons (dVar 3) (dNil))) (dNil))))) (nG 4))
  (dSeq (dAsg (dTup (dCons (dVar 2) (dCons (dCB cTuple (dCons (dVar 3) (dNil))) (dCons (dCB cTuple (dCons (dLc (iAnyD (dVar 4)) (nG 14) (dYes) (dCB cTuple (dCons (dCall sp_law_ways E0d (dCons (dVar 2) (dNil))) (dNil))) [14]) (dNil))) (dNil))))) (nG 5))
  (dSeq (dIfS (dNot (dTest (dCall (sp_law_same 5) E (dCons (dCall sp_free_book E (dCons (dVar 2) (dCons (dCB cTuple (dCons (dVar 3) (dNil))) (dNil)))) (dCons (dVar 5) (dNil)))))) (dRet (dC (.v (.bl false)))) (dNext))
  (dSeq (dAsg (dCall sp_law_draw E (dCons (dVar 1) (dCons (dC (.v (.int 24))) (dNil)))) (nG 6))
  (dSeq (dIfS (dTest (d2 pMem (dVar 6) (dLst (dCons (dC (.v (.int 1))) (dCons (dC (.v (.int 2))) (dCons (dC (.v (.int 3))) (dCons (dC (.v (.int 4))) (dCons (dC (.v (.int 5))) (dNil))))))))) (dAsg (dCall sp_law_spoilt_names E (dCons (dVar 1) (dCons (dVar 3) (dNil)))) (nG 3)) (dNext))
  (dSeq (dIfS (dAnd (dTest (d2 pMem (dVar 6) (dLst (dCons (dC (.v (.int 4))) (dCons (dC (.v (.int 6))) (dCons (dC (.v (.int 7))) (dCons (dC (.v (.int 8))) (dNil)))))))) (dTest (d2 pGt (dCB cLen (dCons (dVar 4) (dNil))) (dC (.v (.int 0)))))) (dAsg (dIf (dTest (d2 pEqA (dCall sp_law_draw E (dCons (dVar 1) (dCons (dC (.v (.int 2))) (dNil)))) (dC (.v (.int 0))))) (dSl (dVar 4) (dPart (dC (.v (.int 1)))) (dNoPart)) (d2 pAdd (dVar 4) (dLst (dCons (d2 pIt (dVar 4) (dC (.v (.int 0)))) (dNil))))) (nG 4)) (dNext))
  (dSeq (dIfS (dAnd (dTest (d2 pMem (dVar 6) (dLst (dCons (dC (.v (.int 5))) (dCons (dC (.v (.int 8))) (dCons (dC (.v (.int 9))) (dCons (dC (.v (.int 10))) (dCons (dC (.v (.int 11))) (dCons (dC (.v (.int 12))) (dCons (dC (.v (.int 13))) (dNil))))))))))) (dTest (d2 pGt (dCB cLen (dCons (dVar 4) (dNil))) (dC (.v (.int 0)))))) (dFor (iRng1D (dCons (d2 pAdd (dC (.v (.int 1))) (dCall sp_law_draw E (dCons (dVar 1) (dCons (dC (.v (.int 2))) (dNil))))) (dNil))) (nG 12) (dSeq (dAsg (dCall sp_law_draw E (dCons (dVar 1) (dCons (dCB cLen (dCons (dVar 4) (dNil))) (dNil)))) (nG 13))
  (dAsg (dCall sp_law_spoilt_lot E (dCons (dVar 1) (dCons (dVar 2) (dCons (d2 pIt (dVar 4) (dVar 13)) (dNil))))) (subG (dVar 4) (dVar 13) setK)))) (dNext))
  (dSeq (dAsg (dVar 2) (nG 7))
  (dSeq (dIfS (dTest (d2 pMem (dVar 6) (dLst (dCons (dC (.v (.int 0))) (dCons (dC (.v (.int 3))) (dCons (dC (.v (.int 14))) (dCons (dC (.v (.int 15))) (dNil)))))))) (dAsg (d2 pIt (dLst (dCons (dC (.v (.str "Line"))) (dCons (dC (.v (.str "rings"))) (dCons (dC (.v (.str ""))) (dCons (dC (.v (.str "bo"))) (dCons (dC (.v (.str "boxes"))) (dCons (dC (.v (.str "LINE"))) (dCons (dC (.v (.str "arc"))) (dCons (dC (.v (.str " ring"))) (dNil)))))))))) (dCall sp_law_draw E (dCons (dVar 1) (dCons (dC (.v (.int 8))) (dNil))))) (nG 7)) (dNext))
  (dSeq (dAsg (dCall sp_law_fault E (dCons (dVar 7) (dCons (dVar 3) (dCons (dVar 4) (dNil))))) (nG 8))
  (dSeq (dIfS (dNot (dTest (dCall (sp_law_same 5) E (dCons (dCall sp_book_fault E (dCons (dVar 7) (dCons (dCB cTuple (dCons (dVar 3) (dNil))) (dCons (dCB cTuple (dCons (dVar 4) (dNil))) (dNil))))) (dCons (dVar 8) (dNil)))))) (dRet (dC (.v (.bl false)))) (dNext))
  (dSeq (dAsg (dTup (dCons (dC (.v (.str "told"))) (dCons (dTup (dCons (dVar 7) (dCons (dCB cTuple (dCons (dVar 3) (dNil))) (dCons (dCB cTuple (dCons (dVar 4) (dNil))) (dNil))))) (dNil)))) (nG 9))
  (dSeq (dIfS (dTest (d2 pIsNotA (dVar 8) (dC (.v .non)))) (dAsg (dTup (dCons (dC (.v (.str "bad"))) (dCons (dVar 8) (dCons (dC (.v (.bl true))) (dNil))))) (nG 9)) (dNext))
  (dSeq (dAsg (dCB cList (dCons (dVar 3) (dNil))) (nG 10))
  (dSeq (dAsg (dCB cList (dCons (dVar 4) (dNil))) (nG 11))
  (dSeq (dIfS (dOr (dNot (dTest (dCall (sp_law_same 5) E (dCons (dCall sp_law_made E (dCons (dVar 7) (dCons (dVar 10) (dCons (dVar 11) (dNil))))) (dCons (dVar 9) (dNil)))))) (dNot (dTest (dCall (sp_law_same 5) E (dCons (dLst (dCons (dVar 10) (dCons (dVar 11) (dNil)))) (dCons (dLst (dCons (dVar 3) (dCons (dVar 4) (dNil)))) (dNil))))))) (dRet (dC (.v (.bl false)))) (dNext))
  (dRet (dCall (sp_law_same 5) E (dCons (dCall sp_law_made E (dCons (dVar 7) (dCons (dCB cTuple (dCons (dVar 3) (dNil))) (dCons (dCB cTuple (dCons (dVar 4) (dNil))) (dNil))))) (dCons (dVar 9) (dNil)))))))))))))))))))))))
abbrev N_law : List Str := ["script", "pool", "kind", "names", "lots", "free", "spoilt", "asked", "fault", "due", "one", "other", "turn", "at", "lot"]
def rdl16 (E : ER) : SD :=
  dSeq (dAsg (dCB cList (dCons (dVar 3) (dNil))) (nG 10))
  (dSeq (dAsg (dCB cList (dCons (dVar 4) (dNil))) (nG 11))
  (dSeq (dIfS (dOr (dNot (dTest (dCall (sp_law_same 5) E (dCons (dCall sp_law_made E (dCons (dVar 7) (dCons (dVar 10) (dCons (dVar 11) (dNil))))) (dCons (dVar 9) (dNil)))))) (dNot (dTest (dCall (sp_law_same 5) E (dCons (dLst (dCons (dVar 10) (dCons (dVar 11) (dNil)))) (dCons (dLst (dCons (dVar 3) (dCons (dVar 4) (dNil)))) (dNil))))))) (dRet (dC (.v (.bl false)))) (dNext))
  (dRet (dCall (sp_law_same 5) E (dCons (dCall sp_law_made E (dCons (dVar 7) (dCons (dCB cTuple (dCons (dVar 3) (dNil))) (dCons (dCB cTuple (dCons (dVar 4) (dNil))) (dNil))))) (dCons (dVar 9) (dNil)))))))
def rdl12 (E : ER) : SD :=
  dSeq (dAsg (dCall sp_law_fault E (dCons (dVar 7) (dCons (dVar 3) (dCons (dVar 4) (dNil))))) (nG 8))
  (dSeq (dIfS (dNot (dTest (dCall (sp_law_same 5) E (dCons (dCall sp_book_fault E (dCons (dVar 7) (dCons (dCB cTuple (dCons (dVar 3) (dNil))) (dCons (dCB cTuple (dCons (dVar 4) (dNil))) (dNil))))) (dCons (dVar 8) (dNil)))))) (dRet (dC (.v (.bl false)))) (dNext))
  (dSeq (dAsg (dTup (dCons (dC (.v (.str "told"))) (dCons (dTup (dCons (dVar 7) (dCons (dCB cTuple (dCons (dVar 3) (dNil))) (dCons (dCB cTuple (dCons (dVar 4) (dNil))) (dNil))))) (dNil)))) (nG 9))
  (dSeq (dIfS (dTest (d2 pIsNotA (dVar 8) (dC (.v .non)))) (dAsg (dTup (dCons (dC (.v (.str "bad"))) (dCons (dVar 8) (dCons (dC (.v (.bl true))) (dNil))))) (nG 9)) (dNext))
  (dSeq (dAsg (dCB cList (dCons (dVar 3) (dNil))) (nG 10))
  (dSeq (dAsg (dCB cList (dCons (dVar 4) (dNil))) (nG 11))
  (dSeq (dIfS (dOr (dNot (dTest (dCall (sp_law_same 5) E (dCons (dCall sp_law_made E (dCons (dVar 7) (dCons (dVar 10) (dCons (dVar 11) (dNil))))) (dCons (dVar 9) (dNil)))))) (dNot (dTest (dCall (sp_law_same 5) E (dCons (dLst (dCons (dVar 10) (dCons (dVar 11) (dNil)))) (dCons (dLst (dCons (dVar 3) (dCons (dVar 4) (dNil)))) (dNil))))))) (dRet (dC (.v (.bl false)))) (dNext))
  (dRet (dCall (sp_law_same 5) E (dCons (dCall sp_law_made E (dCons (dVar 7) (dCons (dCB cTuple (dCons (dVar 3) (dNil))) (dCons (dCB cTuple (dCons (dVar 4) (dNil))) (dNil))))) (dCons (dVar 9) (dNil)))))))))))
def rdl10 (E : ER) : SD :=
  dSeq (dAsg (dVar 2) (nG 7))
  (dSeq (dIfS (dTest (d2 pMem (dVar 6) (dLst (dCons (dC (.v (.int 0))) (dCons (dC (.v (.int 3))) (dCons (dC (.v (.int 14))) (dCons (dC (.v (.int 15))) (dNil)))))))) (dAsg (d2 pIt (dLst (dCons (dC (.v (.str "Line"))) (dCons (dC (.v (.str "rings"))) (dCons (dC (.v (.str ""))) (dCons (dC (.v (.str "bo"))) (dCons (dC (.v (.str "boxes"))) (dCons (dC (.v (.str "LINE"))) (dCons (dC (.v (.str "arc"))) (dCons (dC (.v (.str " ring"))) (dNil)))))))))) (dCall sp_law_draw E (dCons (dVar 1) (dCons (dC (.v (.int 8))) (dNil))))) (nG 7)) (dNext))
  (dSeq (dAsg (dCall sp_law_fault E (dCons (dVar 7) (dCons (dVar 3) (dCons (dVar 4) (dNil))))) (nG 8))
  (dSeq (dIfS (dNot (dTest (dCall (sp_law_same 5) E (dCons (dCall sp_book_fault E (dCons (dVar 7) (dCons (dCB cTuple (dCons (dVar 3) (dNil))) (dCons (dCB cTuple (dCons (dVar 4) (dNil))) (dNil))))) (dCons (dVar 8) (dNil)))))) (dRet (dC (.v (.bl false)))) (dNext))
  (dSeq (dAsg (dTup (dCons (dC (.v (.str "told"))) (dCons (dTup (dCons (dVar 7) (dCons (dCB cTuple (dCons (dVar 3) (dNil))) (dCons (dCB cTuple (dCons (dVar 4) (dNil))) (dNil))))) (dNil)))) (nG 9))
  (dSeq (dIfS (dTest (d2 pIsNotA (dVar 8) (dC (.v .non)))) (dAsg (dTup (dCons (dC (.v (.str "bad"))) (dCons (dVar 8) (dCons (dC (.v (.bl true))) (dNil))))) (nG 9)) (dNext))
  (dSeq (dAsg (dCB cList (dCons (dVar 3) (dNil))) (nG 10))
  (dSeq (dAsg (dCB cList (dCons (dVar 4) (dNil))) (nG 11))
  (dSeq (dIfS (dOr (dNot (dTest (dCall (sp_law_same 5) E (dCons (dCall sp_law_made E (dCons (dVar 7) (dCons (dVar 10) (dCons (dVar 11) (dNil))))) (dCons (dVar 9) (dNil)))))) (dNot (dTest (dCall (sp_law_same 5) E (dCons (dLst (dCons (dVar 10) (dCons (dVar 11) (dNil)))) (dCons (dLst (dCons (dVar 3) (dCons (dVar 4) (dNil)))) (dNil))))))) (dRet (dC (.v (.bl false)))) (dNext))
  (dRet (dCall (sp_law_same 5) E (dCons (dCall sp_law_made E (dCons (dVar 7) (dCons (dCB cTuple (dCons (dVar 3) (dNil))) (dCons (dCB cTuple (dCons (dVar 4) (dNil))) (dNil))))) (dCons (dVar 9) (dNil)))))))))))))
def rdl9 (E : ER) : SD :=
  dSeq (dIfS (dAnd (dTest (d2 pMem (dVar 6) (dLst (dCons (dC (.v (.int 5))) (dCons (dC (.v (.int 8))) (dCons (dC (.v (.int 9))) (dCons (dC (.v (.int 10))) (dCons (dC (.v (.int 11))) (dCons (dC (.v (.int 12))) (dCons (dC (.v (.int 13))) (dNil))))))))))) (dTest (d2 pGt (dCB cLen (dCons (dVar 4) (dNil))) (dC (.v (.int 0)))))) (dFor (iRng1D (dCons (d2 pAdd (dC (.v (.int 1))) (dCall sp_law_draw E (dCons (dVar 1) (dCons (dC (.v (.int 2))) (dNil))))) (dNil))) (nG 12) (dSeq (dAsg (dCall sp_law_draw E (dCons (dVar 1) (dCons (dCB cLen (dCons (dVar 4) (dNil))) (dNil)))) (nG 13))
  (dAsg (dCall sp_law_spoilt_lot E (dCons (dVar 1) (dCons (dVar 2) (dCons (d2 pIt (dVar 4) (dVar 13)) (dNil))))) (subG (dVar 4) (dVar 13) setK)))) (dNext))
  (dSeq (dAsg (dVar 2) (nG 7))
  (dSeq (dIfS (dTest (d2 pMem (dVar 6) (dLst (dCons (dC (.v (.int 0))) (dCons (dC (.v (.int 3))) (dCons (dC (.v (.int 14))) (dCons (dC (.v (.int 15))) (dNil)))))))) (dAsg (d2 pIt (dLst (dCons (dC (.v (.str "Line"))) (dCons (dC (.v (.str "rings"))) (dCons (dC (.v (.str ""))) (dCons (dC (.v (.str "bo"))) (dCons (dC (.v (.str "boxes"))) (dCons (dC (.v (.str "LINE"))) (dCons (dC (.v (.str "arc"))) (dCons (dC (.v (.str " ring"))) (dNil)))))))))) (dCall sp_law_draw E (dCons (dVar 1) (dCons (dC (.v (.int 8))) (dNil))))) (nG 7)) (dNext))
  (dSeq (dAsg (dCall sp_law_fault E (dCons (dVar 7) (dCons (dVar 3) (dCons (dVar 4) (dNil))))) (nG 8))
  (dSeq (dIfS (dNot (dTest (dCall (sp_law_same 5) E (dCons (dCall sp_book_fault E (dCons (dVar 7) (dCons (dCB cTuple (dCons (dVar 3) (dNil))) (dCons (dCB cTuple (dCons (dVar 4) (dNil))) (dNil))))) (dCons (dVar 8) (dNil)))))) (dRet (dC (.v (.bl false)))) (dNext))
  (dSeq (dAsg (dTup (dCons (dC (.v (.str "told"))) (dCons (dTup (dCons (dVar 7) (dCons (dCB cTuple (dCons (dVar 3) (dNil))) (dCons (dCB cTuple (dCons (dVar 4) (dNil))) (dNil))))) (dNil)))) (nG 9))
  (dSeq (dIfS (dTest (d2 pIsNotA (dVar 8) (dC (.v .non)))) (dAsg (dTup (dCons (dC (.v (.str "bad"))) (dCons (dVar 8) (dCons (dC (.v (.bl true))) (dNil))))) (nG 9)) (dNext))
  (dSeq (dAsg (dCB cList (dCons (dVar 3) (dNil))) (nG 10))
  (dSeq (dAsg (dCB cList (dCons (dVar 4) (dNil))) (nG 11))
  (dSeq (dIfS (dOr (dNot (dTest (dCall (sp_law_same 5) E (dCons (dCall sp_law_made E (dCons (dVar 7) (dCons (dVar 10) (dCons (dVar 11) (dNil))))) (dCons (dVar 9) (dNil)))))) (dNot (dTest (dCall (sp_law_same 5) E (dCons (dLst (dCons (dVar 10) (dCons (dVar 11) (dNil)))) (dCons (dLst (dCons (dVar 3) (dCons (dVar 4) (dNil)))) (dNil))))))) (dRet (dC (.v (.bl false)))) (dNext))
  (dRet (dCall (sp_law_same 5) E (dCons (dCall sp_law_made E (dCons (dVar 7) (dCons (dCB cTuple (dCons (dVar 3) (dNil))) (dCons (dCB cTuple (dCons (dVar 4) (dNil))) (dNil))))) (dCons (dVar 9) (dNil))))))))))))))
def rdl8 (E : ER) : SD :=
  dSeq (dIfS (dAnd (dTest (d2 pMem (dVar 6) (dLst (dCons (dC (.v (.int 4))) (dCons (dC (.v (.int 6))) (dCons (dC (.v (.int 7))) (dCons (dC (.v (.int 8))) (dNil)))))))) (dTest (d2 pGt (dCB cLen (dCons (dVar 4) (dNil))) (dC (.v (.int 0)))))) (dAsg (dIf (dTest (d2 pEqA (dCall sp_law_draw E (dCons (dVar 1) (dCons (dC (.v (.int 2))) (dNil)))) (dC (.v (.int 0))))) (dSl (dVar 4) (dPart (dC (.v (.int 1)))) (dNoPart)) (d2 pAdd (dVar 4) (dLst (dCons (d2 pIt (dVar 4) (dC (.v (.int 0)))) (dNil))))) (nG 4)) (dNext))
  (dSeq (dIfS (dAnd (dTest (d2 pMem (dVar 6) (dLst (dCons (dC (.v (.int 5))) (dCons (dC (.v (.int 8))) (dCons (dC (.v (.int 9))) (dCons (dC (.v (.int 10))) (dCons (dC (.v (.int 11))) (dCons (dC (.v (.int 12))) (dCons (dC (.v (.int 13))) (dNil))))))))))) (dTest (d2 pGt (dCB cLen (dCons (dVar 4) (dNil))) (dC (.v (.int 0)))))) (dFor (iRng1D (dCons (d2 pAdd (dC (.v (.int 1))) (dCall sp_law_draw E (dCons (dVar 1) (dCons (dC (.v (.int 2))) (dNil))))) (dNil))) (nG 12) (dSeq (dAsg (dCall sp_law_draw E (dCons (dVar 1) (dCons (dCB cLen (dCons (dVar 4) (dNil))) (dNil)))) (nG 13))
  (dAsg (dCall sp_law_spoilt_lot E (dCons (dVar 1) (dCons (dVar 2) (dCons (d2 pIt (dVar 4) (dVar 13)) (dNil))))) (subG (dVar 4) (dVar 13) setK)))) (dNext))
  (dSeq (dAsg (dVar 2) (nG 7))
  (dSeq (dIfS (dTest (d2 pMem (dVar 6) (dLst (dCons (dC (.v (.int 0))) (dCons (dC (.v (.int 3))) (dCons (dC (.v (.int 14))) (dCons (dC (.v (.int 15))) (dNil)))))))) (dAsg (d2 pIt (dLst (dCons (dC (.v (.str "Line"))) (dCons (dC (.v (.str "rings"))) (dCons (dC (.v (.str ""))) (dCons (dC (.v (.str "bo"))) (dCons (dC (.v (.str "boxes"))) (dCons (dC (.v (.str "LINE"))) (dCons (dC (.v (.str "arc"))) (dCons (dC (.v (.str " ring"))) (dNil)))))))))) (dCall sp_law_draw E (dCons (dVar 1) (dCons (dC (.v (.int 8))) (dNil))))) (nG 7)) (dNext))
  (dSeq (dAsg (dCall sp_law_fault E (dCons (dVar 7) (dCons (dVar 3) (dCons (dVar 4) (dNil))))) (nG 8))
  (dSeq (dIfS (dNot (dTest (dCall (sp_law_same 5) E (dCons (dCall sp_book_fault E (dCons (dVar 7) (dCons (dCB cTuple (dCons (dVar 3) (dNil))) (dCons (dCB cTuple (dCons (dVar 4) (dNil))) (dNil))))) (dCons (dVar 8) (dNil)))))) (dRet (dC (.v (.bl false)))) (dNext))
  (dSeq (dAsg (dTup (dCons (dC (.v (.str "told"))) (dCons (dTup (dCons (dVar 7) (dCons (dCB cTuple (dCons (dVar 3) (dNil))) (dCons (dCB cTuple (dCons (dVar 4) (dNil))) (dNil))))) (dNil)))) (nG 9))
  (dSeq (dIfS (dTest (d2 pIsNotA (dVar 8) (dC (.v .non)))) (dAsg (dTup (dCons (dC (.v (.str "bad"))) (dCons (dVar 8) (dCons (dC (.v (.bl true))) (dNil))))) (nG 9)) (dNext))
  (dSeq (dAsg (dCB cList (dCons (dVar 3) (dNil))) (nG 10))
  (dSeq (dAsg (dCB cList (dCons (dVar 4) (dNil))) (nG 11))
  (dSeq (dIfS (dOr (dNot (dTest (dCall (sp_law_same 5) E (dCons (dCall sp_law_made E (dCons (dVar 7) (dCons (dVar 10) (dCons (dVar 11) (dNil))))) (dCons (dVar 9) (dNil)))))) (dNot (dTest (dCall (sp_law_same 5) E (dCons (dLst (dCons (dVar 10) (dCons (dVar 11) (dNil)))) (dCons (dLst (dCons (dVar 3) (dCons (dVar 4) (dNil)))) (dNil))))))) (dRet (dC (.v (.bl false)))) (dNext))
  (dRet (dCall (sp_law_same 5) E (dCons (dCall sp_law_made E (dCons (dVar 7) (dCons (dCB cTuple (dCons (dVar 3) (dNil))) (dCons (dCB cTuple (dCons (dVar 4) (dNil))) (dNil))))) (dCons (dVar 9) (dNil)))))))))))))))
def rdl7 (E : ER) : SD :=
  dSeq (dIfS (dTest (d2 pMem (dVar 6) (dLst (dCons (dC (.v (.int 1))) (dCons (dC (.v (.int 2))) (dCons (dC (.v (.int 3))) (dCons (dC (.v (.int 4))) (dCons (dC (.v (.int 5))) (dNil))))))))) (dAsg (dCall sp_law_spoilt_names E (dCons (dVar 1) (dCons (dVar 3) (dNil)))) (nG 3)) (dNext))
  (dSeq (dIfS (dAnd (dTest (d2 pMem (dVar 6) (dLst (dCons (dC (.v (.int 4))) (dCons (dC (.v (.int 6))) (dCons (dC (.v (.int 7))) (dCons (dC (.v (.int 8))) (dNil)))))))) (dTest (d2 pGt (dCB cLen (dCons (dVar 4) (dNil))) (dC (.v (.int 0)))))) (dAsg (dIf (dTest (d2 pEqA (dCall sp_law_draw E (dCons (dVar 1) (dCons (dC (.v (.int 2))) (dNil)))) (dC (.v (.int 0))))) (dSl (dVar 4) (dPart (dC (.v (.int 1)))) (dNoPart)) (d2 pAdd (dVar 4) (dLst (dCons (d2 pIt (dVar 4) (dC (.v (.int 0)))) (dNil))))) (nG 4)) (dNext))
  (dSeq (dIfS (dAnd (dTest (d2 pMem (dVar 6) (dLst (dCons (dC (.v (.int 5))) (dCons (dC (.v (.int 8))) (dCons (dC (.v (.int 9))) (dCons (dC (.v (.int 10))) (dCons (dC (.v (.int 11))) (dCons (dC (.v (.int 12))) (dCons (dC (.v (.int 13))) (dNil))))))))))) (dTest (d2 pGt (dCB cLen (dCons (dVar 4) (dNil))) (dC (.v (.int 0)))))) (dFor (iRng1D (dCons (d2 pAdd (dC (.v (.int 1))) (dCall sp_law_draw E (dCons (dVar 1) (dCons (dC (.v (.int 2))) (dNil))))) (dNil))) (nG 12) (dSeq (dAsg (dCall sp_law_draw E (dCons (dVar 1) (dCons (dCB cLen (dCons (dVar 4) (dNil))) (dNil)))) (nG 13))
  (dAsg (dCall sp_law_spoilt_lot E (dCons (dVar 1) (dCons (dVar 2) (dCons (d2 pIt (dVar 4) (dVar 13)) (dNil))))) (subG (dVar 4) (dVar 13) setK)))) (dNext))
  (dSeq (dAsg (dVar 2) (nG 7))
  (dSeq (dIfS (dTest (d2 pMem (dVar 6) (dLst (dCons (dC (.v (.int 0))) (dCons (dC (.v (.int 3))) (dCons (dC (.v (.int 14))) (dCons (dC (.v (.int 15))) (dNil)))))))) (dAsg (d2 pIt (dLst (dCons (dC (.v (.str "Line"))) (dCons (dC (.v (.str "rings"))) (dCons (dC (.v (.str ""))) (dCons (dC (.v (.str "bo"))) (dCons (dC (.v (.str "boxes"))) (dCons (dC (.v (.str "LINE"))) (dCons (dC (.v (.str "arc"))) (dCons (dC (.v (.str " ring"))) (dNil)))))))))) (dCall sp_law_draw E (dCons (dVar 1) (dCons (dC (.v (.int 8))) (dNil))))) (nG 7)) (dNext))
  (dSeq (dAsg (dCall sp_law_fault E (dCons (dVar 7) (dCons (dVar 3) (dCons (dVar 4) (dNil))))) (nG 8))
  (dSeq (dIfS (dNot (dTest (dCall (sp_law_same 5) E (dCons (dCall sp_book_fault E (dCons (dVar 7) (dCons (dCB cTuple (dCons (dVar 3) (dNil))) (dCons (dCB cTuple (dCons (dVar 4) (dNil))) (dNil))))) (dCons (dVar 8) (dNil)))))) (dRet (dC (.v (.bl false)))) (dNext))
  (dSeq (dAsg (dTup (dCons (dC (.v (.str "told"))) (dCons (dTup (dCons (dVar 7) (dCons (dCB cTuple (dCons (dVar 3) (dNil))) (dCons (dCB cTuple (dCons (dVar 4) (dNil))) (dNil))))) (dNil)))) (nG 9))
  (dSeq (dIfS (dTest (d2 pIsNotA (dVar 8) (dC (.v .non)))) (dAsg (dTup (dCons (dC (.v (.str "bad"))) (dCons (dVar 8) (dCons (dC (.v (.bl true))) (dNil))))) (nG 9)) (dNext))
  (dSeq (dAsg (dCB cList (dCons (dVar 3) (dNil))) (nG 10))
  (dSeq (dAsg (dCB cList (dCons (dVar 4) (dNil))) (nG 11))
  (dSeq (dIfS (dOr (dNot (dTest (dCall (sp_law_same 5) E (dCons (dCall sp_law_made E (dCons (dVar 7) (dCons (dVar 10) (dCons (dVar 11) (dNil))))) (dCons (dVar 9) (dNil)))))) (dNot (dTest (dCall (sp_law_same 5) E (dCons (dLst (dCons (dVar 10) (dCons (dVar 11) (dNil)))) (dCons (dLst (dCons (dVar 3) (dCons (dVar 4) (dNil)))) (dNil))))))) (dRet (dC (.v (.bl false)))) (dNext))
  (dRet (dCall (sp_law_same 5) E (dCons (dCall sp_law_made E (dCons (dVar 7) (dCons (dCB cTuple (dCons (dVar 3) (dNil))) (dCons (dCB cTuple (dCons (dVar 4) (dNil))) (dNil))))) (dCons (dVar 9) (dNil))))))))))))))))
def rdl3 (E : ER) : SD :=
  dSeq (dAsg (dCall sp_law_drawn_lots E (dCons (dVar 1) (dCons (dVar 2) (dCons (dCB cLen (dCons (dVar 3) (dNil))) (dNil))))) (nG 4))
  (dSeq (dAsg (dTup (dCons (dVar 2) (dCons (dCB cTuple (dCons (dVar 3) (dNil))) (dCons (dCB cTuple (dCons (dLc (iAnyD (dVar 4)) (nG 14) (dYes) (dCB cTuple (dCons (dCall sp_law_ways E0d (dCons (dVar 2) (dNil))) (dNil))) [14]) (dNil))) (dNil))))) (nG 5))
  (dSeq (dIfS (dNot (dTest (dCall (sp_law_same 5) E (dCons (dCall sp_free_book E (dCons (dVar 2) (dCons (dCB cTuple (dCons (dVar 3) (dNil))) (dNil)))) (dCons (dVar 5) (dNil)))))) (dRet (dC (.v (.bl false)))) (dNext))
  (dSeq (dAsg (dCall sp_law_draw E (dCons (dVar 1) (dCons (dC (.v (.int 24))) (dNil)))) (nG 6))
  (dSeq (dIfS (dTest (d2 pMem (dVar 6) (dLst (dCons (dC (.v (.int 1))) (dCons (dC (.v (.int 2))) (dCons (dC (.v (.int 3))) (dCons (dC (.v (.int 4))) (dCons (dC (.v (.int 5))) (dNil))))))))) (dAsg (dCall sp_law_spoilt_names E (dCons (dVar 1) (dCons (dVar 3) (dNil)))) (nG 3)) (dNext))
  (dSeq (dIfS (dAnd (dTest (d2 pMem (dVar 6) (dLst (dCons (dC (.v (.int 4))) (dCons (dC (.v (.int 6))) (dCons (dC (.v (.int 7))) (dCons (dC (.v (.int 8))) (dNil)))))))) (dTest (d2 pGt (dCB cLen (dCons (dVar 4) (dNil))) (dC (.v (.int 0)))))) (dAsg (dIf (dTest (d2 pEqA (dCall sp_law_draw E (dCons (dVar 1) (dCons (dC (.v (.int 2))) (dNil)))) (dC (.v (.int 0))))) (dSl (dVar 4) (dPart (dC (.v (.int 1)))) (dNoPart)) (d2 pAdd (dVar 4) (dLst (dCons (d2 pIt (dVar 4) (dC (.v (.int 0)))) (dNil))))) (nG 4)) (dNext))
  (dSeq (dIfS (dAnd (dTest (d2 pMem (dVar 6) (dLst (dCons (dC (.v (.int 5))) (dCons (dC (.v (.int 8))) (dCons (dC (.v (.int 9))) (dCons (dC (.v (.int 10))) (dCons (dC (.v (.int 11))) (dCons (dC (.v (.int 12))) (dCons (dC (.v (.int 13))) (dNil))))))))))) (dTest (d2 pGt (dCB cLen (dCons (dVar 4) (dNil))) (dC (.v (.int 0)))))) (dFor (iRng1D (dCons (d2 pAdd (dC (.v (.int 1))) (dCall sp_law_draw E (dCons (dVar 1) (dCons (dC (.v (.int 2))) (dNil))))) (dNil))) (nG 12) (dSeq (dAsg (dCall sp_law_draw E (dCons (dVar 1) (dCons (dCB cLen (dCons (dVar 4) (dNil))) (dNil)))) (nG 13))
  (dAsg (dCall sp_law_spoilt_lot E (dCons (dVar 1) (dCons (dVar 2) (dCons (d2 pIt (dVar 4) (dVar 13)) (dNil))))) (subG (dVar 4) (dVar 13) setK)))) (dNext))
  (dSeq (dAsg (dVar 2) (nG 7))
  (dSeq (dIfS (dTest (d2 pMem (dVar 6) (dLst (dCons (dC (.v (.int 0))) (dCons (dC (.v (.int 3))) (dCons (dC (.v (.int 14))) (dCons (dC (.v (.int 15))) (dNil)))))))) (dAsg (d2 pIt (dLst (dCons (dC (.v (.str "Line"))) (dCons (dC (.v (.str "rings"))) (dCons (dC (.v (.str ""))) (dCons (dC (.v (.str "bo"))) (dCons (dC (.v (.str "boxes"))) (dCons (dC (.v (.str "LINE"))) (dCons (dC (.v (.str "arc"))) (dCons (dC (.v (.str " ring"))) (dNil)))))))))) (dCall sp_law_draw E (dCons (dVar 1) (dCons (dC (.v (.int 8))) (dNil))))) (nG 7)) (dNext))
  (dSeq (dAsg (dCall sp_law_fault E (dCons (dVar 7) (dCons (dVar 3) (dCons (dVar 4) (dNil))))) (nG 8))
  (dSeq (dIfS (dNot (dTest (dCall (sp_law_same 5) E (dCons (dCall sp_book_fault E (dCons (dVar 7) (dCons (dCB cTuple (dCons (dVar 3) (dNil))) (dCons (dCB cTuple (dCons (dVar 4) (dNil))) (dNil))))) (dCons (dVar 8) (dNil)))))) (dRet (dC (.v (.bl false)))) (dNext))
  (dSeq (dAsg (dTup (dCons (dC (.v (.str "told"))) (dCons (dTup (dCons (dVar 7) (dCons (dCB cTuple (dCons (dVar 3) (dNil))) (dCons (dCB cTuple (dCons (dVar 4) (dNil))) (dNil))))) (dNil)))) (nG 9))
  (dSeq (dIfS (dTest (d2 pIsNotA (dVar 8) (dC (.v .non)))) (dAsg (dTup (dCons (dC (.v (.str "bad"))) (dCons (dVar 8) (dCons (dC (.v (.bl true))) (dNil))))) (nG 9)) (dNext))
  (dSeq (dAsg (dCB cList (dCons (dVar 3) (dNil))) (nG 10))
  (dSeq (dAsg (dCB cList (dCons (dVar 4) (dNil))) (nG 11))
  (dSeq (dIfS (dOr (dNot (dTest (dCall (sp_law_same 5) E (dCons (dCall sp_law_made E (dCons (dVar 7) (dCons (dVar 10) (dCons (dVar 11) (dNil))))) (dCons (dVar 9) (dNil)))))) (dNot (dTest (dCall (sp_law_same 5) E (dCons (dLst (dCons (dVar 10) (dCons (dVar 11) (dNil)))) (dCons (dLst (dCons (dVar 3) (dCons (dVar 4) (dNil)))) (dNil))))))) (dRet (dC (.v (.bl false)))) (dNext))
  (dRet (dCall (sp_law_same 5) E (dCons (dCall sp_law_made E (dCons (dVar 7) (dCons (dCB cTuple (dCons (dVar 3) (dNil))) (dCons (dCB cTuple (dCons (dVar 4) (dNil))) (dNil))))) (dCons (dVar 9) (dNil))))))))))))))))))))
theorem ok_law : ∀ ds h Q E, lawSp ds h Q E → rd_law (fun x _ h' => E x h') (fin Q) (startD N_law ds) h := by
  rintro ds h Q E ⟨ns0, rfl, rfl, hl, hb, ret⟩
  show rd_law _ _ [some (.k (intsD ns0)), none, none, none, none, none, none, none, none, none, none, none, none, none, none] emp
  unfold rd_law
  -- from the law's fault on
  have t12 : ∀ (p na la : Addr) (kind kd : Str) (fr : D) (sp : Int) (v12 v13 : Option D) (ns : List Str) (ls : List (List Str)) (h1 : Hd), h1 na = some (.lst (ns.map sD)) → h1 la = some (.lst (ls.map lD)) → NmX ns → LsOk 900 ls →
      rdl12 (fun x _ h' => E x h') (fin Q) [some (.k (intsD ns0)), some (.v (.ref p)), some (.v (.str kind)), some (.v (.ref na)), some (.v (.ref la)), some fr, some (.v (.int sp)), some (.v (.str kd)), none, none, none, none, v12, v13, none] h1 := by
    intro p na la kind kd fr sp v12 v13 ns ls h1 gn gl nx lo
    unfold rdl12
    obtain ⟨l1, l2⟩ := lsD (Nat.le_refl 900) lo
    have l7 := nx.2.1
    have l9 : ∀ l ∈ ls, l.length ≤ 1000 := fun l hl => by have := (lo.2 l hl).1; omega
    have l30 := lo.1
    have sm := smD_made (kind := kd) (ns := ns) (ls := ls) (by omega) (by omega) l9
    try simp -dsimp -implicitDefEqProofs only [↓clx_FigureWords, ↓ers, ↓clx_Moves, ↓clx_Behind, ↓rds17, ↓rds15, ↓rds14, ↓rds13, ↓rds1, ↓rds2, ↓rds3, ↓rds4, ↓rds5, ↓rds6, ↓rds7, ↓rds8, ↓rds9, ↓rds10, ↓rds11, List.set_cons_zero, List.set_cons_succ, ne_eq, not_false_eq_true, decide_eq_true_eq, Bool.or_true, Bool.or_false, Bool.true_or, Bool.false_or, Bool.and_true, Bool.true_and, Bool.and_false, Bool.false_and, Bool.not_true, Bool.not_false, reduceCtorEq, beq_self_eq_true, true_and, and_true, if_true, if_false, Bool.false_eq_true]
    refine cl_i ⟨rfl, kd, na, la, ns, ls.map lD, rfl, gn, gl, nx, l1, l2, ?_⟩
    try simp -dsimp -implicitDefEqProofs only [↓clx_FigureWords, ↓ers, ↓clx_Moves, ↓clx_Behind, ↓rds17, ↓rds15, ↓rds14, ↓rds13, ↓rds1, ↓rds2, ↓rds3, ↓rds4, ↓rds5, ↓rds6, ↓rds7, ↓rds8, ↓rds9, ↓rds10, ↓rds11, List.set_cons_zero, List.set_cons_succ, ne_eq, not_false_eq_true, decide_eq_true_eq, Bool.or_true, Bool.or_false, Bool.true_or, Bool.false_or, Bool.and_true, Bool.true_and, Bool.and_false, Bool.false_and, Bool.not_true, Bool.not_false, reduceCtorEq, beq_self_eq_true, true_and, and_true, if_true, if_false, Bool.false_eq_true, gn, gl]
    refine cl_i ⟨rfl, kd, _, _, ns, ls.map lD, rfl, .inl ⟨rfl, rfl⟩, by omega, nx.2.2, l1, l2, ?_⟩
    have rest : ∀ (due : D), due = madeD kd ns (ls.map lD) → rdl16 (fun x _ h' => E x h') (fin Q) [some (.k (intsD ns0)), some (.v (.ref p)), some (.v (.str kind)), some (.v (.ref na)), some (.v (.ref la)), some fr, some (.v (.int sp)), some (.v (.str kd)), some (bookF kd ns (ls.map lD)), some due, none, none, v12, v13, none] h1 := by
      rintro due rfl
      unfold rdl16
      try simp -dsimp -implicitDefEqProofs only [↓clx_FigureWords, ↓ers, ↓clx_Moves, ↓clx_Behind, ↓rds17, ↓rds15, ↓rds14, ↓rds13, ↓rds1, ↓rds2, ↓rds3, ↓rds4, ↓rds5, ↓rds6, ↓rds7, ↓rds8, ↓rds9, ↓rds10, ↓rds11, List.set_cons_zero, List.set_cons_succ, ne_eq, not_false_eq_true, decide_eq_true_eq, Bool.or_true, Bool.or_false, Bool.true_or, Bool.false_or, Bool.and_true, Bool.true_and, Bool.and_false, Bool.false_and, Bool.not_true, Bool.not_false, reduceCtorEq, beq_self_eq_true, true_and, and_true, if_true, if_false, Bool.false_eq_true, gn]
      refine al_i fun o1 ho1 => ?_
      have s1 := Sub.put (h := h1) (o := .lst (ns.map sD)) ho1
      have go1 : put h1 o1 (.lst (ns.map sD)) o1 = some (.lst (ns.map sD)) := put_same
      generalize put h1 o1 (.lst (ns.map sD)) = h2 at s1 go1
      have gn2 := s1 _ _ gn
      have gl2 := s1 _ _ gl
      try simp -dsimp -implicitDefEqProofs only [↓clx_FigureWords, ↓ers, ↓clx_Moves, ↓clx_Behind, ↓rds17, ↓rds15, ↓rds14, ↓rds13, ↓rds1, ↓rds2, ↓rds3, ↓rds4, ↓rds5, ↓rds6, ↓rds7, ↓rds8, ↓rds9, ↓rds10, ↓rds11, List.set_cons_zero, List.set_cons_succ, ne_eq, not_false_eq_true, decide_eq_true_eq, Bool.or_true, Bool.or_false, Bool.true_or, Bool.false_or, Bool.and_true, Bool.true_and, Bool.and_false, Bool.false_and, Bool.not_true, Bool.not_false, reduceCtorEq, beq_self_eq_true, true_and, and_true, if_true, if_false, Bool.false_eq_true, gl2]
      refine al_i fun o2 ho2 => ?_
      have s2 := Sub.put (h := h2) (o := .lst (ls.map lD)) ho2
      have go2 : put h2 o2 (.lst (ls.map lD)) o2 = some (.lst (ls.map lD)) := put_same
      generalize put h2 o2 (.lst (ls.map lD)) = h3 at s2 go2
      have go13 := s2 _ _ go1
      have gn3 := s2 _ _ gn2
      have gl3 := s2 _ _ gl2
      try simp -dsimp -implicitDefEqProofs only [↓clx_FigureWords, ↓ers, ↓clx_Moves, ↓clx_Behind, ↓rds17, ↓rds15, ↓rds14, ↓rds13, ↓rds1, ↓rds2, ↓rds3, ↓rds4, ↓rds5, ↓rds6, ↓rds7, ↓rds8, ↓rds9, ↓rds10, ↓rds11, List.set_cons_zero, List.set_cons_succ, ne_eq, not_false_eq_true, decide_eq_true_eq, Bool.or_true, Bool.or_false, Bool.true_or, Bool.false_or, Bool.and_true, Bool.true_and, Bool.and_false, Bool.false_and, Bool.not_true, Bool.not_false, reduceCtorEq, beq_self_eq_true, true_and, and_true, if_true, if_false, Bool.false_eq_true]
      refine cl_i ⟨rfl, kd, _, _, ns, ls.map lD, rfl, .inr ⟨o1, o2, rfl, rfl, go13, go2⟩, by omega, nx.2.2, l1, l2, ?_⟩
      try simp -dsimp -implicitDefEqProofs only [↓clx_FigureWords, ↓ers, ↓clx_Moves, ↓clx_Behind, ↓rds17, ↓rds15, ↓rds14, ↓rds13, ↓rds1, ↓rds2, ↓rds3, ↓rds4, ↓rds5, ↓rds6, ↓rds7, ↓rds8, ↓rds9, ↓rds10, ↓rds11, List.set_cons_zero, List.set_cons_succ, ne_eq, not_false_eq_true, decide_eq_true_eq, Bool.or_true, Bool.or_false, Bool.true_or, Bool.false_or, Bool.and_true, Bool.true_and, Bool.and_false, Bool.false_and, Bool.not_true, Bool.not_false, reduceCtorEq, beq_self_eq_true, true_and, and_true, if_true, if_false, Bool.false_eq_true]
      refine cl_i ⟨rfl, _, _, rfl, same_refl sm, ?_⟩
      try simp -dsimp -implicitDefEqProofs only [↓clx_FigureWords, ↓ers, ↓clx_Moves, ↓clx_Behind, ↓rds17, ↓rds15, ↓rds14, ↓rds13, ↓rds1, ↓rds2, ↓rds3, ↓rds4, ↓rds5, ↓rds6, ↓rds7, ↓rds8, ↓rds9, ↓rds10, ↓rds11, List.set_cons_zero, List.set_cons_succ, ne_eq, not_false_eq_true, decide_eq_true_eq, Bool.or_true, Bool.or_false, Bool.true_or, Bool.false_or, Bool.and_true, Bool.true_and, Bool.and_false, Bool.false_and, Bool.not_true, Bool.not_false, reduceCtorEq, beq_self_eq_true, true_and, and_true, if_true, if_false, Bool.false_eq_true]
      refine al_i fun q1 hq1 => ?_
      have s3 := Sub.put (h := h3) (o := .lst [D.v (.ref o1), D.v (.ref o2)]) hq1
      have gq1 : put h3 q1 (.lst [D.v (.ref o1), D.v (.ref o2)]) q1 = some (.lst [D.v (.ref o1), D.v (.ref o2)]) := put_same
      generalize put h3 q1 (.lst [D.v (.ref o1), D.v (.ref o2)]) = h4 at s3 gq1
      try simp -dsimp -implicitDefEqProofs only [↓clx_FigureWords, ↓ers, ↓clx_Moves, ↓clx_Behind, ↓rds17, ↓rds15, ↓rds14, ↓rds13, ↓rds1, ↓rds2, ↓rds3, ↓rds4, ↓rds5, ↓rds6, ↓rds7, ↓rds8, ↓rds9, ↓rds10, ↓rds11, List.set_cons_zero, List.set_cons_succ, ne_eq, not_false_eq_true, decide_eq_true_eq, Bool.or_true, Bool.or_false, Bool.true_or, Bool.false_or, Bool.and_true, Bool.true_and, Bool.and_false, Bool.false_and, Bool.not_true, Bool.not_false, reduceCtorEq, beq_self_eq_true, true_and, and_true, if_true, if_false, Bool.false_eq_true]
      refine al_i fun q2 hq2 => ?_
      have s4 := Sub.put (h := h4) (o := .lst [D.v (.ref na), D.v (.ref la)]) hq2
      have gq2 : put h4 q2 (.lst [D.v (.ref na), D.v (.ref la)]) q2 = some (.lst [D.v (.ref na), D.v (.ref la)]) := put_same
      generalize put h4 q2 (.lst [D.v (.ref na), D.v (.ref la)]) = h5 at s4 gq2
      have gq15 := s4 _ _ gq1
      have s35 := s3.trans s4
      have gn5 := s35 _ _ gn3
      have gl5 := s35 _ _ gl3
      have go15 := s35 _ _ go13
      have go25 := s35 _ _ go2
      try simp -dsimp -implicitDefEqProofs only [↓clx_FigureWords, ↓ers, ↓clx_Moves, ↓clx_Behind, ↓rds17, ↓rds15, ↓rds14, ↓rds13, ↓rds1, ↓rds2, ↓rds3, ↓rds4, ↓rds5, ↓rds6, ↓rds7, ↓rds8, ↓rds9, ↓rds10, ↓rds11, List.set_cons_zero, List.set_cons_succ, ne_eq, not_false_eq_true, decide_eq_true_eq, Bool.or_true, Bool.or_false, Bool.true_or, Bool.false_or, Bool.and_true, Bool.true_and, Bool.and_false, Bool.false_and, Bool.not_true, Bool.not_false, reduceCtorEq, beq_self_eq_true, true_and, and_true, if_true, if_false, Bool.false_eq_true]
      refine cl_i ⟨rfl, _, _, rfl, ⟨q1, _, _, rfl, gq15, gq2, rfl, by show 2 < 2 ^ 60; decide, fun i x y e1 e2 => ?_⟩, ?_⟩
      · match i with
        | 0 =>
          cases e1; cases e2
          exact same_lists (n := 3) go15 gn5 (by rw [List.length_map]; omega) fun d hd => by
            obtain ⟨w, _, rfl⟩ := List.mem_map.mp hd
            exact rfl
        | 1 =>
          cases e1; cases e2
          exact same_lists (n := 3) go25 gl5 (by rw [List.length_map]; omega) fun d hd => by
            obtain ⟨l, hl, rfl⟩ := List.mem_map.mp hd
            exact smD_strs 1 (l9 l hl)
        | i + 2 => cases e1
      try simp -dsimp -implicitDefEqProofs only [↓clx_FigureWords, ↓ers, ↓clx_Moves, ↓clx_Behind, ↓rds17, ↓rds15, ↓rds14, ↓rds13, ↓rds1, ↓rds2, ↓rds3, ↓rds4, ↓rds5, ↓rds6, ↓rds7, ↓rds8, ↓rds9, ↓rds10, ↓rds11, List.set_cons_zero, List.set_cons_succ, ne_eq, not_false_eq_true, decide_eq_true_eq, Bool.or_true, Bool.or_false, Bool.true_or, Bool.false_or, Bool.and_true, Bool.true_and, Bool.and_false, Bool.false_and, Bool.not_true, Bool.not_false, reduceCtorEq, beq_self_eq_true, true_and, and_true, if_true, if_false, Bool.false_eq_true, gn5, gl5]
      refine cl_i ⟨rfl, kd, _, _, ns, ls.map lD, rfl, .inl ⟨rfl, rfl⟩, by omega, nx.2.2, l1, l2, ?_⟩
      try simp -dsimp -implicitDefEqProofs only [↓clx_FigureWords, ↓ers, ↓clx_Moves, ↓clx_Behind, ↓rds17, ↓rds15, ↓rds14, ↓rds13, ↓rds1, ↓rds2, ↓rds3, ↓rds4, ↓rds5, ↓rds6, ↓rds7, ↓rds8, ↓rds9, ↓rds10, ↓rds11, List.set_cons_zero, List.set_cons_succ, ne_eq, not_false_eq_true, decide_eq_true_eq, Bool.or_true, Bool.or_false, Bool.true_or, Bool.false_or, Bool.and_true, Bool.true_and, Bool.and_false, Bool.false_and, Bool.not_true, Bool.not_false, reduceCtorEq, beq_self_eq_true, true_and, and_true, if_true, if_false, Bool.false_eq_true]
      refine cl_i ⟨rfl, _, _, rfl, same_refl sm, ?_⟩
      exact finR (ret _)
    try simp -dsimp -implicitDefEqProofs only [↓clx_FigureWords, ↓ers, ↓clx_Moves, ↓clx_Behind, ↓rds17, ↓rds15, ↓rds14, ↓rds13, ↓rds1, ↓rds2, ↓rds3, ↓rds4, ↓rds5, ↓rds6, ↓rds7, ↓rds8, ↓rds9, ↓rds10, ↓rds11, List.set_cons_zero, List.set_cons_succ, ne_eq, not_false_eq_true, decide_eq_true_eq, Bool.or_true, Bool.or_false, Bool.true_or, Bool.false_or, Bool.and_true, Bool.true_and, Bool.and_false, Bool.false_and, Bool.not_true, Bool.not_false, reduceCtorEq, beq_self_eq_true, true_and, and_true, if_true, if_false, Bool.false_eq_true]
    refine cl_i ⟨rfl, _, _, rfl, same_refl (smD_book 3 _ _ _), ?_⟩
    rcases book_or kd ns (ls.map lD) with e | ⟨xs, e⟩
    · have r0 := rest (.t [sD "told", .t [.v (.str kd), .t (ns.map sD), .t (ls.map lD)]]) (by unfold madeD; rw [e]; rfl)
      rw [e] at r0 ⊢
      unfold rdl16 at r0
      try simp -dsimp -implicitDefEqProofs only [↓clx_FigureWords, ↓ers, ↓clx_Moves, ↓clx_Behind, ↓rds17, ↓rds15, ↓rds14, ↓rds13, ↓rds1, ↓rds2, ↓rds3, ↓rds4, ↓rds5, ↓rds6, ↓rds7, ↓rds8, ↓rds9, ↓rds10, ↓rds11, List.set_cons_zero, List.set_cons_succ, ne_eq, not_false_eq_true, decide_eq_true_eq, Bool.or_true, Bool.or_false, Bool.true_or, Bool.false_or, Bool.and_true, Bool.true_and, Bool.and_false, Bool.false_and, Bool.not_true, Bool.not_false, reduceCtorEq, beq_self_eq_true, true_and, and_true, if_true, if_false, Bool.false_eq_true, gn, gl] at r0
      try simp -dsimp -implicitDefEqProofs only [↓clx_FigureWords, ↓ers, ↓clx_Moves, ↓clx_Behind, ↓rds17, ↓rds15, ↓rds14, ↓rds13, ↓rds1, ↓rds2, ↓rds3, ↓rds4, ↓rds5, ↓rds6, ↓rds7, ↓rds8, ↓rds9, ↓rds10, ↓rds11, List.set_cons_zero, List.set_cons_succ, ne_eq, not_false_eq_true, decide_eq_true_eq, Bool.or_true, Bool.or_false, Bool.true_or, Bool.false_or, Bool.and_true, Bool.true_and, Bool.and_false, Bool.false_and, Bool.not_true, Bool.not_false, reduceCtorEq, beq_self_eq_true, true_and, and_true, if_true, if_false, Bool.false_eq_true, gn, gl]
      exact r0
    · have r0 := rest (.t [sD "bad", .t xs, .v (.bl true)]) (by unfold madeD; rw [e]; rfl)
      rw [e] at r0 ⊢
      unfold rdl16 at r0
      try simp -dsimp -implicitDefEqProofs only [↓clx_FigureWords, ↓ers, ↓clx_Moves, ↓clx_Behind, ↓rds17, ↓rds15, ↓rds14, ↓rds13, ↓rds1, ↓rds2, ↓rds3, ↓rds4, ↓rds5, ↓rds6, ↓rds7, ↓rds8, ↓rds9, ↓rds10, ↓rds11, List.set_cons_zero, List.set_cons_succ, ne_eq, not_false_eq_true, decide_eq_true_eq, Bool.or_true, Bool.or_false, Bool.true_or, Bool.false_or, Bool.and_true, Bool.true_and, Bool.and_false, Bool.false_and, Bool.not_true, Bool.not_false, reduceCtorEq, beq_self_eq_true, true_and, and_true, if_true, if_false, Bool.false_eq_true, gn, gl] at r0
      try simp -dsimp -implicitDefEqProofs only [↓clx_FigureWords, ↓ers, ↓clx_Moves, ↓clx_Behind, ↓rds17, ↓rds15, ↓rds14, ↓rds13, ↓rds1, ↓rds2, ↓rds3, ↓rds4, ↓rds5, ↓rds6, ↓rds7, ↓rds8, ↓rds9, ↓rds10, ↓rds11, List.set_cons_zero, List.set_cons_succ, ne_eq, not_false_eq_true, decide_eq_true_eq, Bool.or_true, Bool.or_false, Bool.true_or, Bool.false_or, Bool.and_true, Bool.true_and, Bool.and_false, Bool.false_and, Bool.not_true, Bool.not_false, reduceCtorEq, beq_self_eq_true, true_and, and_true, if_true, if_false, Bool.false_eq_true, gn, gl]
      exact r0
  -- the kind that is asked
  have t10 : ∀ (p q na la : Addr) (kind : Str) (fr : D) (sp : Int) (v12 v13 : Option D) (ns : List Str) (ls : List (List Str)) (h1 : Hd), PoolAt h1 p q ns0 → na ≠ p → la ≠ p → h1 na = some (.lst (ns.map sD)) → h1 la = some (.lst (ls.map lD)) → NmX ns → LsOk 900 ls →
      rdl10 (fun x _ h' => E x h') (fin Q) [some (.k (intsD ns0)), some (.v (.ref p)), some (.v (.str kind)), some (.v (.ref na)), some (.v (.ref la)), some fr, some (.v (.int sp)), none, none, none, none, none, v12, v13, none] h1 := by
    intro p q na la kind fr sp v12 v13 ns ls h1 P1 np lp gn gl nx lo
    unfold rdl10
    have stop : ∀ (kd : Str) (h2 : Hd), h2 na = some (.lst (ns.map sD)) → h2 la = some (.lst (ls.map lD)) → rdl12 (fun x _ h' => E x h') (fin Q) [some (.k (intsD ns0)), some (.v (.ref p)), some (.v (.str kind)), some (.v (.ref na)), some (.v (.ref la)), some fr, some (.v (.int sp)), some (.v (.str kd)), none, none, none, none, v12, v13, none] h2 := fun kd h2 g1 g2 => t12 p na la kind kd fr sp v12 v13 ns ls h2 g1 g2 nx lo
    try simp -dsimp -implicitDefEqProofs only [↓clx_FigureWords, ↓ers, ↓clx_Moves, ↓clx_Behind, ↓rds17, ↓rds15, ↓rds14, ↓rds13, ↓rds1, ↓rds2, ↓rds3, ↓rds4, ↓rds5, ↓rds6, ↓rds7, ↓rds8, ↓rds9, ↓rds10, ↓rds11, List.set_cons_zero, List.set_cons_succ, ne_eq, not_false_eq_true, decide_eq_true_eq, Bool.or_true, Bool.or_false, Bool.true_or, Bool.false_or, Bool.and_true, Bool.true_and, Bool.and_false, Bool.false_and, Bool.not_true, Bool.not_false, reduceCtorEq, beq_self_eq_true, true_and, and_true, if_true, if_false, Bool.false_eq_true]
    refine al_i fun y hy => ?_
    have ny := pool_ne P1 hy
    have P2 := pool_keep (o := .lst [D.v (.int 0), D.v (.int 3), D.v (.int 14), D.v (.int 15)]) P1 hy
    have gy : put h1 y (.lst [D.v (.int 0), D.v (.int 3), D.v (.int 14), D.v (.int 15)]) y = some (.lst [D.v (.int 0), D.v (.int 3), D.v (.int 14), D.v (.int 15)]) := put_same
    have s2 := Sub.put (h := h1) (o := .lst [D.v (.int 0), D.v (.int 3), D.v (.int 14), D.v (.int 15)]) hy
    have gn2 := s2 _ _ gn
    have gl2 := s2 _ _ gl
    generalize put h1 y (.lst [D.v (.int 0), D.v (.int 3), D.v (.int 14), D.v (.int 15)]) = h2 at P2 gy s2 gn2 gl2
    try simp -dsimp -implicitDefEqProofs only [↓clx_FigureWords, ↓ers, ↓clx_Moves, ↓clx_Behind, ↓rds17, ↓rds15, ↓rds14, ↓rds13, ↓rds1, ↓rds2, ↓rds3, ↓rds4, ↓rds5, ↓rds6, ↓rds7, ↓rds8, ↓rds9, ↓rds10, ↓rds11, List.set_cons_zero, List.set_cons_succ, ne_eq, not_false_eq_true, decide_eq_true_eq, Bool.or_true, Bool.or_false, Bool.true_or, Bool.false_or, Bool.and_true, Bool.true_and, Bool.and_false, Bool.false_and, Bool.not_true, Bool.not_false, reduceCtorEq, beq_self_eq_true, true_and, and_true, if_true, if_false, Bool.false_eq_true, gy]
    refine ⟨rfl, rfl, dIte_by (fun c => ?_) fun c => ?_⟩
    · try simp -dsimp -implicitDefEqProofs only [↓clx_FigureWords, ↓ers, ↓clx_Moves, ↓clx_Behind, ↓rds17, ↓rds15, ↓rds14, ↓rds13, ↓rds1, ↓rds2, ↓rds3, ↓rds4, ↓rds5, ↓rds6, ↓rds7, ↓rds8, ↓rds9, ↓rds10, ↓rds11, List.set_cons_zero, List.set_cons_succ, ne_eq, not_false_eq_true, decide_eq_true_eq, Bool.or_true, Bool.or_false, Bool.true_or, Bool.false_or, Bool.and_true, Bool.true_and, Bool.and_false, Bool.false_and, Bool.not_true, Bool.not_false, reduceCtorEq, beq_self_eq_true, true_and, and_true, if_true, if_false, Bool.false_eq_true]
      refine al_i fun z hz => ?_
      have nz := pool_ne P2 hz
      have P3 := pool_keep (o := .lst (KS.map sD)) P2 hz
      have s3 := Sub.put (h := h2) (o := .lst (KS.map sD)) hz
      have gz : put h2 z (.lst (KS.map sD)) z = some (.lst (KS.map sD)) := put_same
      have gn3 := s3 _ _ gn2
      have gl3 := s3 _ _ gl2
      have ek : put h2 z (.lst [D.v (.str "Line"), D.v (.str "rings"), D.v (.str ""), D.v (.str "bo"), D.v (.str "boxes"), D.v (.str "LINE"), D.v (.str "arc"), D.v (.str " ring")]) = put h2 z (.lst (KS.map sD)) := rfl
      rw [ek]
      generalize put h2 z (.lst (KS.map sD)) = h3 at P3 s3 gz gn3 gl3
      try simp -dsimp -implicitDefEqProofs only [↓clx_FigureWords, ↓ers, ↓clx_Moves, ↓clx_Behind, ↓rds17, ↓rds15, ↓rds14, ↓rds13, ↓rds1, ↓rds2, ↓rds3, ↓rds4, ↓rds5, ↓rds6, ↓rds7, ↓rds8, ↓rds9, ↓rds10, ↓rds11, List.set_cons_zero, List.set_cons_succ, ne_eq, not_false_eq_true, decide_eq_true_eq, Bool.or_true, Bool.or_false, Bool.true_or, Bool.false_or, Bool.and_true, Bool.true_and, Bool.and_false, Bool.false_and, Bool.not_true, Bool.not_false, reduceCtorEq, beq_self_eq_true, true_and, and_true, if_true, if_false, Bool.false_eq_true]
      refine draw_i P3 (by decide) (by decide) fun k h4 P4 x4 k0 k1 => ?_
      obtain ⟨kd, _, ekd⟩ := at_list (l := KS) k0 k1
      have gz4 := x4 _ _ nz.1 gz
      have gn4 := x4 _ _ np gn3
      have gl4 := x4 _ _ lp gl3
      try simp -dsimp -implicitDefEqProofs only [↓clx_FigureWords, ↓ers, ↓clx_Moves, ↓clx_Behind, ↓rds17, ↓rds15, ↓rds14, ↓rds13, ↓rds1, ↓rds2, ↓rds3, ↓rds4, ↓rds5, ↓rds6, ↓rds7, ↓rds8, ↓rds9, ↓rds10, ↓rds11, List.set_cons_zero, List.set_cons_succ, ne_eq, not_false_eq_true, decide_eq_true_eq, Bool.or_true, Bool.or_false, Bool.true_or, Bool.false_or, Bool.and_true, Bool.true_and, Bool.and_false, Bool.false_and, Bool.not_true, Bool.not_false, reduceCtorEq, beq_self_eq_true, true_and, and_true, if_true, if_false, Bool.false_eq_true, gz4, ekd, sD]
      have r := stop kd h4 gn4 gl4
      unfold rdl12 at r
      exact r
    · have r := stop kind h2 gn2 gl2
      unfold rdl12 at r
      try simp -dsimp -implicitDefEqProofs only [↓clx_FigureWords, ↓ers, ↓clx_Moves, ↓clx_Behind, ↓rds17, ↓rds15, ↓rds14, ↓rds13, ↓rds1, ↓rds2, ↓rds3, ↓rds4, ↓rds5, ↓rds6, ↓rds7, ↓rds8, ↓rds9, ↓rds10, ↓rds11, List.set_cons_zero, List.set_cons_succ, ne_eq, not_false_eq_true, decide_eq_true_eq, Bool.or_true, Bool.or_false, Bool.true_or, Bool.false_or, Bool.and_true, Bool.true_and, Bool.and_false, Bool.false_and, Bool.not_true, Bool.not_false, reduceCtorEq, beq_self_eq_true, true_and, and_true, if_true, if_false, Bool.false_eq_true]
      exact r
  have lsOk_mono : ∀ (m n : Nat) (ls : List (List Str)), m ≤ n → LsOk m ls → LsOk n ls := fun m n ls h o => ⟨o.1, fun l hl => ⟨by have := (o.2 l hl).1; omega, (o.2 l hl).2⟩⟩
  -- lots spoilt
  have t9 : ∀ (p q na la : Addr) (kind : Str) (fr : D) (sp : Int) (ns : List Str) (ls : List (List Str)) (h1 : Hd), kind ∈ kds → PoolAt h1 p q ns0 → na ≠ p → la ≠ p → na ≠ la → la ≠ q → h1 na = some (.lst (ns.map sD)) → h1 la = some (.lst (ls.map lD)) → NmX ns → LsOk 169 ls →
      rdl9 (fun x _ h' => E x h') (fin Q) [some (.k (intsD ns0)), some (.v (.ref p)), some (.v (.str kind)), some (.v (.ref na)), some (.v (.ref la)), some fr, some (.v (.int sp)), none, none, none, none, none, none, none, none] h1 := by
    intro p q na la kind fr sp ns ls h1 hk P1 np lp nl lq gn gl nx lo
    unfold rdl9
    have stop : ∀ (v12 v13 : Option D) (ls : List (List Str)) (h2 : Hd), PoolAt h2 p q ns0 → h2 na = some (.lst (ns.map sD)) → h2 la = some (.lst (ls.map lD)) → LsOk 900 ls → rdl10 (fun x _ h' => E x h') (fin Q) [some (.k (intsD ns0)), some (.v (.ref p)), some (.v (.str kind)), some (.v (.ref na)), some (.v (.ref la)), some fr, some (.v (.int sp)), none, none, none, none, none, v12, v13, none] h2 := fun v12 v13 ls h2 P2 g1 g2 lo => t10 p q na la kind fr sp v12 v13 ns ls h2 P2 np lp g1 g2 nx lo
    try simp -dsimp -implicitDefEqProofs only [↓clx_FigureWords, ↓ers, ↓clx_Moves, ↓clx_Behind, ↓rds17, ↓rds15, ↓rds14, ↓rds13, ↓rds1, ↓rds2, ↓rds3, ↓rds4, ↓rds5, ↓rds6, ↓rds7, ↓rds8, ↓rds9, ↓rds10, ↓rds11, List.set_cons_zero, List.set_cons_succ, ne_eq, not_false_eq_true, decide_eq_true_eq, Bool.or_true, Bool.or_false, Bool.true_or, Bool.false_or, Bool.and_true, Bool.true_and, Bool.and_false, Bool.false_and, Bool.not_true, Bool.not_false, reduceCtorEq, beq_self_eq_true, true_and, and_true, if_true, if_false, Bool.false_eq_true]
    refine al_i fun y hy => ?_
    have ny := pool_ne P1 hy
    have P2 := pool_keep (o := .lst [D.v (.int 5), D.v (.int 8), D.v (.int 9), D.v (.int 10), D.v (.int 11), D.v (.int 12), D.v (.int 13)]) P1 hy
    have gy : put h1 y (.lst [D.v (.int 5), D.v (.int 8), D.v (.int 9), D.v (.int 10), D.v (.int 11), D.v (.int 12), D.v (.int 13)]) y = some (.lst [D.v (.int 5), D.v (.int 8), D.v (.int 9), D.v (.int 10), D.v (.int 11), D.v (.int 12), D.v (.int 13)]) := put_same
    have s2 := Sub.put (h := h1) (o := .lst [D.v (.int 5), D.v (.int 8), D.v (.int 9), D.v (.int 10), D.v (.int 11), D.v (.int 12), D.v (.int 13)]) hy
    have gn2 := s2 _ _ gn
    have gl2 := s2 _ _ gl
    generalize put h1 y (.lst [D.v (.int 5), D.v (.int 8), D.v (.int 9), D.v (.int 10), D.v (.int 11), D.v (.int 12), D.v (.int 13)]) = h2 at P2 gy s2 gn2 gl2
    have no := stop none none ls h2 P2 gn2 gl2 (lsOk_mono 169 900 ls (by decide) lo)
    unfold rdl10 at no
    try simp -dsimp -implicitDefEqProofs only [↓clx_FigureWords, ↓ers, ↓clx_Moves, ↓clx_Behind, ↓rds17, ↓rds15, ↓rds14, ↓rds13, ↓rds1, ↓rds2, ↓rds3, ↓rds4, ↓rds5, ↓rds6, ↓rds7, ↓rds8, ↓rds9, ↓rds10, ↓rds11, List.set_cons_zero, List.set_cons_succ, ne_eq, not_false_eq_true, decide_eq_true_eq, Bool.or_true, Bool.or_false, Bool.true_or, Bool.false_or, Bool.and_true, Bool.true_and, Bool.and_false, Bool.false_and, Bool.not_true, Bool.not_false, reduceCtorEq, beq_self_eq_true, true_and, and_true, if_true, if_false, Bool.false_eq_true, gy]
    refine ⟨rfl, rfl, dIte_by (fun c => ?_) fun c => ?_⟩
    · try simp -dsimp -implicitDefEqProofs only [↓clx_FigureWords, ↓ers, ↓clx_Moves, ↓clx_Behind, ↓rds17, ↓rds15, ↓rds14, ↓rds13, ↓rds1, ↓rds2, ↓rds3, ↓rds4, ↓rds5, ↓rds6, ↓rds7, ↓rds8, ↓rds9, ↓rds10, ↓rds11, List.set_cons_zero, List.set_cons_succ, ne_eq, not_false_eq_true, decide_eq_true_eq, Bool.or_true, Bool.or_false, Bool.true_or, Bool.false_or, Bool.and_true, Bool.true_and, Bool.and_false, Bool.false_and, Bool.not_true, Bool.not_false, reduceCtorEq, beq_self_eq_true, true_and, and_true, if_true, if_false, Bool.false_eq_true, gl2, List.length_map]
      refine dIte_by (fun c2 => ?_) fun c2 => ?_
      · try simp -dsimp -implicitDefEqProofs only [↓clx_FigureWords, ↓ers, ↓clx_Moves, ↓clx_Behind, ↓rds17, ↓rds15, ↓rds14, ↓rds13, ↓rds1, ↓rds2, ↓rds3, ↓rds4, ↓rds5, ↓rds6, ↓rds7, ↓rds8, ↓rds9, ↓rds10, ↓rds11, List.set_cons_zero, List.set_cons_succ, ne_eq, not_false_eq_true, decide_eq_true_eq, Bool.or_true, Bool.or_false, Bool.true_or, Bool.false_or, Bool.and_true, Bool.true_and, Bool.and_false, Bool.false_and, Bool.not_true, Bool.not_false, reduceCtorEq, beq_self_eq_true, true_and, and_true, if_true, if_false, Bool.false_eq_true]
        refine draw_i P2 (by decide) (by decide) fun k h3 P3 x3 k0 k1 => ?_
        have gn3 := x3 _ _ np gn2
        have gl3 := x3 _ _ lp gl2
        have lr : ((1 : Int) + k).toNat ≤ 2 := by omega
        try simp -dsimp -implicitDefEqProofs only [↓clx_FigureWords, ↓ers, ↓clx_Moves, ↓clx_Behind, ↓rds17, ↓rds15, ↓rds14, ↓rds13, ↓rds1, ↓rds2, ↓rds3, ↓rds4, ↓rds5, ↓rds6, ↓rds7, ↓rds8, ↓rds9, ↓rds10, ↓rds11, List.set_cons_zero, List.set_cons_succ, ne_eq, not_false_eq_true, decide_eq_true_eq, Bool.or_true, Bool.or_false, Bool.true_or, Bool.false_or, Bool.and_true, Bool.true_and, Bool.and_false, Bool.false_and, Bool.not_true, Bool.not_false, reduceCtorEq, beq_self_eq_true, true_and, and_true, if_true, if_false, Bool.false_eq_true]
        refine ⟨by omega, ?_⟩
        refine loop_of (fun i σ h' => i ≤ 2 ∧ PoolAt h' p q ns0 ∧ h' na = some (.lst (ns.map sD)) ∧ (∃ ls : List (List Str), h' la = some (.lst (ls.map lD)) ∧ 1 ≤ ls.length ∧ LsOk (if i = 0 then 169 else if i = 1 then 340 else 682) ls) ∧ ∃ v12 v13, σ = [some (.k (intsD ns0)), some (.v (.ref p)), some (.v (.str kind)), some (.v (.ref na)), some (.v (.ref la)), some fr, some (.v (.int sp)), none, none, none, none, none, v12, v13, none]) ⟨by omega, P3, gn3, ⟨ls, gl3, by omega, lo⟩, _, _, rfl⟩ (fun _ _ _ _ _ => trivial) ?_ ?_
        · rintro i x σ h' hx ⟨hi, P', gn', ⟨ls, gl', l1, lo⟩, v12, v13, rfl⟩ N hN
          obtain ⟨hi, rfl⟩ := rangeD_get hx
          have hi : i < 2 := by omega
          have l30 := lo.1
          try simp -dsimp -implicitDefEqProofs only [↓clx_FigureWords, ↓ers, ↓clx_Moves, ↓clx_Behind, ↓rds17, ↓rds15, ↓rds14, ↓rds13, ↓rds1, ↓rds2, ↓rds3, ↓rds4, ↓rds5, ↓rds6, ↓rds7, ↓rds8, ↓rds9, ↓rds10, ↓rds11, List.set_cons_zero, List.set_cons_succ, ne_eq, not_false_eq_true, decide_eq_true_eq, Bool.or_true, Bool.or_false, Bool.true_or, Bool.false_or, Bool.and_true, Bool.true_and, Bool.and_false, Bool.false_and, Bool.not_true, Bool.not_false, reduceCtorEq, beq_self_eq_true, true_and, and_true, if_true, if_false, Bool.false_eq_true, gl', List.length_map]
          refine draw_i P' (by omega) (log_small (by omega) (by omega)) fun t h4 P4 x4 t0 t1 => ?_
          obtain ⟨t, rfl⟩ := Int.eq_ofNat_of_zero_le t0
          have ht : t < ls.length := by omega
          have gl4 := x4 _ _ lp gl'
          have gn4 := x4 _ _ np gn'
          have em : atI (ls.map lD) (t : Int) = some (lD (ls.getD t [])) := atI_nat_of (i := t) (by rw [List.getElem?_map, List.getElem?_eq_getElem ht, List.getD_eq_getElem?_getD, List.getElem?_eq_getElem ht]; rfl) rfl
          have mem : ls.getD t [] ∈ ls := by rw [List.getD_eq_getElem?_getD, List.getElem?_eq_getElem ht]; exact List.getElem_mem ht
          obtain ⟨m1, m2⟩ := lo.2 _ mem
          have ixr : ixN (ls.map lD).length (t : Int) = some t := ix_in (by rw [List.length_map]; exact ht) rfl
          try simp -dsimp -implicitDefEqProofs only [↓clx_FigureWords, ↓ers, ↓clx_Moves, ↓clx_Behind, ↓rds17, ↓rds15, ↓rds14, ↓rds13, ↓rds1, ↓rds2, ↓rds3, ↓rds4, ↓rds5, ↓rds6, ↓rds7, ↓rds8, ↓rds9, ↓rds10, ↓rds11, List.set_cons_zero, List.set_cons_succ, ne_eq, not_false_eq_true, decide_eq_true_eq, Bool.or_true, Bool.or_false, Bool.true_or, Bool.false_or, Bool.and_true, Bool.true_and, Bool.and_false, Bool.false_and, Bool.not_true, Bool.not_false, reduceCtorEq, beq_self_eq_true, true_and, and_true, if_true, if_false, Bool.false_eq_true, gl4, em, lD]
          refine cl_i ⟨rfl, p, q, ns0, kind, _, rfl, P4, hk, ?_, m2, fun v h5 lv wv P5 x5 => ?_⟩
          · split at m1
            · omega
            · split at m1 <;> omega
          have gl5 := x5 _ _ lp gl4
          have gn5 := x5 _ _ np gn4
          have hs : (ls.map lD).set t (.t (v.map sD)) = (ls.set t v).map lD := (List.map_set ..).symm
          try simp -dsimp -implicitDefEqProofs only [↓clx_FigureWords, ↓ers, ↓clx_Moves, ↓clx_Behind, ↓rds17, ↓rds15, ↓rds14, ↓rds13, ↓rds1, ↓rds2, ↓rds3, ↓rds4, ↓rds5, ↓rds6, ↓rds7, ↓rds8, ↓rds9, ↓rds10, ↓rds11, List.set_cons_zero, List.set_cons_succ, ne_eq, not_false_eq_true, decide_eq_true_eq, Bool.or_true, Bool.or_false, Bool.true_or, Bool.false_or, Bool.and_true, Bool.true_and, Bool.and_false, Bool.false_and, Bool.not_true, Bool.not_false, reduceCtorEq, beq_self_eq_true, true_and, and_true, if_true, if_false, Bool.false_eq_true, gl5, ixr]
          rw [hs]
          refine hN _ _ ⟨hi, ⟨by obtain ⟨st, g⟩ := P5.st; exact ⟨st, by rw [put_ne lp.symm]; exact g⟩, by rw [put_ne lq.symm]; exact P5.cl, P5.ne, P5.ln⟩, by rw [put_ne nl]; exact gn5, ⟨_, put_same, by rw [List.length_set]; exact l1, by rw [List.length_set]; exact l30, fun l hl => ?_⟩, _, _, rfl⟩
          have step : (if i = 0 then 169 else if i = 1 then 340 else 682) ≤ (if i + 1 = 0 then 169 else if i + 1 = 1 then 340 else 682) ∧ 2 * (if i = 0 then 169 else if i = 1 then 340 else 682) + 2 ≤ (if i + 1 = 0 then 169 else if i + 1 = 1 then 340 else 682) := by
            have : i = 0 ∨ i = 1 := by omega
            rcases this with rfl | rfl <;> decide
          rcases List.mem_or_eq_of_mem_set hl with k | rfl
          · exact ⟨Nat.le_trans (lo.2 l k).1 step.1, (lo.2 l k).2⟩
          · exact ⟨by omega, wv⟩
        · rintro σ h' ⟨hi, P', gn', ⟨ls, gl', l1, lo⟩, v12, v13, rfl⟩
          have r := stop v12 v13 ls h' P' gn' gl' (lsOk_mono _ 900 ls (by split; · omega
                                                                          split <;> omega) lo)
          unfold rdl10 at r
          exact r
      · try simp -dsimp -implicitDefEqProofs only [↓clx_FigureWords, ↓ers, ↓clx_Moves, ↓clx_Behind, ↓rds17, ↓rds15, ↓rds14, ↓rds13, ↓rds1, ↓rds2, ↓rds3, ↓rds4, ↓rds5, ↓rds6, ↓rds7, ↓rds8, ↓rds9, ↓rds10, ↓rds11, List.set_cons_zero, List.set_cons_succ, ne_eq, not_false_eq_true, decide_eq_true_eq, Bool.or_true, Bool.or_false, Bool.true_or, Bool.false_or, Bool.and_true, Bool.true_and, Bool.and_false, Bool.false_and, Bool.not_true, Bool.not_false, reduceCtorEq, beq_self_eq_true, true_and, and_true, if_true, if_false, Bool.false_eq_true]
        exact no
    · try simp -dsimp -implicitDefEqProofs only [↓clx_FigureWords, ↓ers, ↓clx_Moves, ↓clx_Behind, ↓rds17, ↓rds15, ↓rds14, ↓rds13, ↓rds1, ↓rds2, ↓rds3, ↓rds4, ↓rds5, ↓rds6, ↓rds7, ↓rds8, ↓rds9, ↓rds10, ↓rds11, List.set_cons_zero, List.set_cons_succ, ne_eq, not_false_eq_true, decide_eq_true_eq, Bool.or_true, Bool.or_false, Bool.true_or, Bool.false_or, Bool.and_true, Bool.true_and, Bool.and_false, Bool.false_and, Bool.not_true, Bool.not_false, reduceCtorEq, beq_self_eq_true, true_and, and_true, if_true, if_false, Bool.false_eq_true]
      exact no
  -- a lot more or less
  have t8 : ∀ (p q na la : Addr) (kind : Str) (fr : D) (sp : Int) (ns : List Str) (ls : List (List Str)) (h1 : Hd), kind ∈ kds → PoolAt h1 p q ns0 → na ≠ p → la ≠ p → na ≠ la → la ≠ q → h1 na = some (.lst (ns.map sD)) → h1 la = some (.lst (ls.map lD)) → NmX ns → LsOk 169 ls → ls.length ≤ 20 →
      rdl8 (fun x _ h' => E x h') (fin Q) [some (.k (intsD ns0)), some (.v (.ref p)), some (.v (.str kind)), some (.v (.ref na)), some (.v (.ref la)), some fr, some (.v (.int sp)), none, none, none, none, none, none, none, none] h1 := by
    intro p q na la kind fr sp ns ls h1 hk P1 np lp nl lq gn gl nx lo l20
    unfold rdl8
    have stop : ∀ (la : Addr) (ls : List (List Str)) (h2 : Hd), la ≠ p → na ≠ la → la ≠ q → PoolAt h2 p q ns0 → h2 na = some (.lst (ns.map sD)) → h2 la = some (.lst (ls.map lD)) → LsOk 169 ls → rdl9 (fun x _ h' => E x h') (fin Q) [some (.k (intsD ns0)), some (.v (.ref p)), some (.v (.str kind)), some (.v (.ref na)), some (.v (.ref la)), some fr, some (.v (.int sp)), none, none, none, none, none, none, none, none] h2 := fun la ls h2 lp nl lq P2 g1 g2 lo => t9 p q na la kind fr sp ns ls h2 hk P2 np lp nl lq g1 g2 nx lo
    try simp -dsimp -implicitDefEqProofs only [↓clx_FigureWords, ↓ers, ↓clx_Moves, ↓clx_Behind, ↓rds17, ↓rds15, ↓rds14, ↓rds13, ↓rds1, ↓rds2, ↓rds3, ↓rds4, ↓rds5, ↓rds6, ↓rds7, ↓rds8, ↓rds9, ↓rds10, ↓rds11, List.set_cons_zero, List.set_cons_succ, ne_eq, not_false_eq_true, decide_eq_true_eq, Bool.or_true, Bool.or_false, Bool.true_or, Bool.false_or, Bool.and_true, Bool.true_and, Bool.and_false, Bool.false_and, Bool.not_true, Bool.not_false, reduceCtorEq, beq_self_eq_true, true_and, and_true, if_true, if_false, Bool.false_eq_true]
    refine al_i fun y hy => ?_
    have ny := pool_ne P1 hy
    have P2 := pool_keep (o := .lst [D.v (.int 4), D.v (.int 6), D.v (.int 7), D.v (.int 8)]) P1 hy
    have gy : put h1 y (.lst [D.v (.int 4), D.v (.int 6), D.v (.int 7), D.v (.int 8)]) y = some (.lst [D.v (.int 4), D.v (.int 6), D.v (.int 7), D.v (.int 8)]) := put_same
    have s2 := Sub.put (h := h1) (o := .lst [D.v (.int 4), D.v (.int 6), D.v (.int 7), D.v (.int 8)]) hy
    have gn2 := s2 _ _ gn
    have gl2 := s2 _ _ gl
    generalize put h1 y (.lst [D.v (.int 4), D.v (.int 6), D.v (.int 7), D.v (.int 8)]) = h2 at P2 gy s2 gn2 gl2
    have no := stop la ls h2 lp nl lq P2 gn2 gl2 lo
    unfold rdl9 at no
    try simp -dsimp -implicitDefEqProofs only [↓clx_FigureWords, ↓ers, ↓clx_Moves, ↓clx_Behind, ↓rds17, ↓rds15, ↓rds14, ↓rds13, ↓rds1, ↓rds2, ↓rds3, ↓rds4, ↓rds5, ↓rds6, ↓rds7, ↓rds8, ↓rds9, ↓rds10, ↓rds11, List.set_cons_zero, List.set_cons_succ, ne_eq, not_false_eq_true, decide_eq_true_eq, Bool.or_true, Bool.or_false, Bool.true_or, Bool.false_or, Bool.and_true, Bool.true_and, Bool.and_false, Bool.false_and, Bool.not_true, Bool.not_false, reduceCtorEq, beq_self_eq_true, true_and, and_true, if_true, if_false, Bool.false_eq_true, gy]
    refine ⟨rfl, rfl, dIte_by (fun c => ?_) fun c => ?_⟩
    · try simp -dsimp -implicitDefEqProofs only [↓clx_FigureWords, ↓ers, ↓clx_Moves, ↓clx_Behind, ↓rds17, ↓rds15, ↓rds14, ↓rds13, ↓rds1, ↓rds2, ↓rds3, ↓rds4, ↓rds5, ↓rds6, ↓rds7, ↓rds8, ↓rds9, ↓rds10, ↓rds11, List.set_cons_zero, List.set_cons_succ, ne_eq, not_false_eq_true, decide_eq_true_eq, Bool.or_true, Bool.or_false, Bool.true_or, Bool.false_or, Bool.and_true, Bool.true_and, Bool.and_false, Bool.false_and, Bool.not_true, Bool.not_false, reduceCtorEq, beq_self_eq_true, true_and, and_true, if_true, if_false, Bool.false_eq_true, gl2, List.length_map]
      refine dIte_by (fun c2 => ?_) fun c2 => ?_
      · have l1 : 0 < ls.length := by omega
        try simp -dsimp -implicitDefEqProofs only [↓clx_FigureWords, ↓ers, ↓clx_Moves, ↓clx_Behind, ↓rds17, ↓rds15, ↓rds14, ↓rds13, ↓rds1, ↓rds2, ↓rds3, ↓rds4, ↓rds5, ↓rds6, ↓rds7, ↓rds8, ↓rds9, ↓rds10, ↓rds11, List.set_cons_zero, List.set_cons_succ, ne_eq, not_false_eq_true, decide_eq_true_eq, Bool.or_true, Bool.or_false, Bool.true_or, Bool.false_or, Bool.and_true, Bool.true_and, Bool.and_false, Bool.false_and, Bool.not_true, Bool.not_false, reduceCtorEq, beq_self_eq_true, true_and, and_true, if_true, if_false, Bool.false_eq_true]
        refine draw_i P2 (by decide) (by decide) fun k h3 P3 x3 k0 k1 => ?_
        have gn3 := x3 _ _ np gn2
        have gl3 := x3 _ _ lp gl2
        have new : ∀ (ls' : List (List Str)), (∀ l ∈ ls', l ∈ ls) → ls'.length ≤ 30 → ∀ r, h3 r = none → rdl9 (fun x _ h' => E x h') (fin Q) [some (.k (intsD ns0)), some (.v (.ref p)), some (.v (.str kind)), some (.v (.ref na)), some (.v (.ref r)), some fr, some (.v (.int sp)), none, none, none, none, none, none, none, none] (put h3 r (.lst (ls'.map lD))) := fun ls' hs hn r hr => by
          have nr := pool_ne P3 hr
          have nnr : na ≠ r := fun e => by rw [← e, gn3] at hr; cases hr
          exact stop r ls' _ nr.1 nnr nr.2 (pool_keep P3 hr) (Sub.put hr _ _ gn3) put_same ⟨hn, fun l hl => lo.2 l (hs l hl)⟩
        try simp -dsimp -implicitDefEqProofs only [↓clx_FigureWords, ↓ers, ↓clx_Moves, ↓clx_Behind, ↓rds17, ↓rds15, ↓rds14, ↓rds13, ↓rds1, ↓rds2, ↓rds3, ↓rds4, ↓rds5, ↓rds6, ↓rds7, ↓rds8, ↓rds9, ↓rds10, ↓rds11, List.set_cons_zero, List.set_cons_succ, ne_eq, not_false_eq_true, decide_eq_true_eq, Bool.or_true, Bool.or_false, Bool.true_or, Bool.false_or, Bool.and_true, Bool.true_and, Bool.and_false, Bool.false_and, Bool.not_true, Bool.not_false, reduceCtorEq, beq_self_eq_true, true_and, and_true, if_true, if_false, Bool.false_eq_true, gl3]
        refine dIte_by (fun e0 => ?_) fun e0 => ?_
        · try simp -dsimp -implicitDefEqProofs only [↓clx_FigureWords, ↓ers, ↓clx_Moves, ↓clx_Behind, ↓rds17, ↓rds15, ↓rds14, ↓rds13, ↓rds1, ↓rds2, ↓rds3, ↓rds4, ↓rds5, ↓rds6, ↓rds7, ↓rds8, ↓rds9, ↓rds10, ↓rds11, List.set_cons_zero, List.set_cons_succ, ne_eq, not_false_eq_true, decide_eq_true_eq, Bool.or_true, Bool.or_false, Bool.true_or, Bool.false_or, Bool.and_true, Bool.true_and, Bool.and_false, Bool.false_and, Bool.not_true, Bool.not_false, reduceCtorEq, beq_self_eq_true, true_and, and_true, if_true, if_false, Bool.false_eq_true, gl3]
          refine al_i fun r hr => ?_
          have r1 := new (ls.drop 1) (fun l h => List.mem_of_mem_drop h) (by rw [List.length_drop]; omega) r hr
          have ec : cutD (ls.map lD) (some 1) none = (ls.drop 1).map lD := by rw [show (1 : Int) = ((1 : Nat) : Int) from rfl, cut_drop, List.map_drop]
          rw [ec]
          unfold rdl9 at r1
          try simp -dsimp -implicitDefEqProofs only [↓clx_FigureWords, ↓ers, ↓clx_Moves, ↓clx_Behind, ↓rds17, ↓rds15, ↓rds14, ↓rds13, ↓rds1, ↓rds2, ↓rds3, ↓rds4, ↓rds5, ↓rds6, ↓rds7, ↓rds8, ↓rds9, ↓rds10, ↓rds11, List.set_cons_zero, List.set_cons_succ, ne_eq, not_false_eq_true, decide_eq_true_eq, Bool.or_true, Bool.or_false, Bool.true_or, Bool.false_or, Bool.and_true, Bool.true_and, Bool.and_false, Bool.false_and, Bool.not_true, Bool.not_false, reduceCtorEq, beq_self_eq_true, true_and, and_true, if_true, if_false, Bool.false_eq_true]
          exact r1
        · have em : atI (ls.map lD) 0 = some (lD (ls.getD 0 [])) := atI_nat_of (i := 0) (by rw [List.getElem?_map, List.getElem?_eq_getElem l1, List.getD_eq_getElem?_getD, List.getElem?_eq_getElem l1]; rfl) rfl
          have mem : ls.getD 0 [] ∈ ls := by rw [List.getD_eq_getElem?_getD, List.getElem?_eq_getElem l1]; exact List.getElem_mem l1
          try simp -dsimp -implicitDefEqProofs only [↓clx_FigureWords, ↓ers, ↓clx_Moves, ↓clx_Behind, ↓rds17, ↓rds15, ↓rds14, ↓rds13, ↓rds1, ↓rds2, ↓rds3, ↓rds4, ↓rds5, ↓rds6, ↓rds7, ↓rds8, ↓rds9, ↓rds10, ↓rds11, List.set_cons_zero, List.set_cons_succ, ne_eq, not_false_eq_true, decide_eq_true_eq, Bool.or_true, Bool.or_false, Bool.true_or, Bool.false_or, Bool.and_true, Bool.true_and, Bool.and_false, Bool.false_and, Bool.not_true, Bool.not_false, reduceCtorEq, beq_self_eq_true, true_and, and_true, if_true, if_false, Bool.false_eq_true, gl3, em]
          refine al_i fun r0 hr0 => ?_
          have s4 := Sub.put (h := h3) (o := .lst [lD (ls.getD 0 [])]) hr0
          have g4 : put h3 r0 (.lst [lD (ls.getD 0 [])]) r0 = some (.lst [lD (ls.getD 0 [])]) := put_same
          have gn4 := s4 _ _ gn3
          have gl4 := s4 _ _ gl3
          have P4 := pool_keep (o := .lst [lD (ls.getD 0 [])]) P3 hr0
          generalize put h3 r0 (.lst [lD (ls.getD 0 [])]) = h4 at s4 g4 gn4 gl4 P4
          try simp -dsimp -implicitDefEqProofs only [↓clx_FigureWords, ↓ers, ↓clx_Moves, ↓clx_Behind, ↓rds17, ↓rds15, ↓rds14, ↓rds13, ↓rds1, ↓rds2, ↓rds3, ↓rds4, ↓rds5, ↓rds6, ↓rds7, ↓rds8, ↓rds9, ↓rds10, ↓rds11, List.set_cons_zero, List.set_cons_succ, ne_eq, not_false_eq_true, decide_eq_true_eq, Bool.or_true, Bool.or_false, Bool.true_or, Bool.false_or, Bool.and_true, Bool.true_and, Bool.and_false, Bool.false_and, Bool.not_true, Bool.not_false, reduceCtorEq, beq_self_eq_true, true_and, and_true, if_true, if_false, Bool.false_eq_true, gl4, g4]
          refine ⟨Nat.le_trans (show _ ≤ 100 by simp; omega) (by decide), al_i fun r hr => ?_⟩
          have nr := pool_ne P4 hr
          have nnr : na ≠ r := fun e => by rw [← e, gn4] at hr; cases hr
          have r1 := stop r (ls ++ [ls.getD 0 []]) _ nr.1 nnr nr.2 (pool_keep P4 hr) (Sub.put hr _ _ gn4) put_same ⟨by rw [List.length_append, List.length_singleton]; omega, fun l hl => by
            rcases List.mem_append.mp hl with k | k
            · exact lo.2 l k
            · rw [List.mem_singleton.mp k]; exact lo.2 _ mem⟩
          rw [show ls.map lD ++ [lD (ls.getD 0 [])] = (ls ++ [ls.getD 0 []]).map lD by simp]
          unfold rdl9 at r1
          try simp -dsimp -implicitDefEqProofs only [↓clx_FigureWords, ↓ers, ↓clx_Moves, ↓clx_Behind, ↓rds17, ↓rds15, ↓rds14, ↓rds13, ↓rds1, ↓rds2, ↓rds3, ↓rds4, ↓rds5, ↓rds6, ↓rds7, ↓rds8, ↓rds9, ↓rds10, ↓rds11, List.set_cons_zero, List.set_cons_succ, ne_eq, not_false_eq_true, decide_eq_true_eq, Bool.or_true, Bool.or_false, Bool.true_or, Bool.false_or, Bool.and_true, Bool.true_and, Bool.and_false, Bool.false_and, Bool.not_true, Bool.not_false, reduceCtorEq, beq_self_eq_true, true_and, and_true, if_true, if_false, Bool.false_eq_true]
          exact r1
      · try simp -dsimp -implicitDefEqProofs only [↓clx_FigureWords, ↓ers, ↓clx_Moves, ↓clx_Behind, ↓rds17, ↓rds15, ↓rds14, ↓rds13, ↓rds1, ↓rds2, ↓rds3, ↓rds4, ↓rds5, ↓rds6, ↓rds7, ↓rds8, ↓rds9, ↓rds10, ↓rds11, List.set_cons_zero, List.set_cons_succ, ne_eq, not_false_eq_true, decide_eq_true_eq, Bool.or_true, Bool.or_false, Bool.true_or, Bool.false_or, Bool.and_true, Bool.true_and, Bool.and_false, Bool.false_and, Bool.not_true, Bool.not_false, reduceCtorEq, beq_self_eq_true, true_and, and_true, if_true, if_false, Bool.false_eq_true]
        exact no
    · try simp -dsimp -implicitDefEqProofs only [↓clx_FigureWords, ↓ers, ↓clx_Moves, ↓clx_Behind, ↓rds17, ↓rds15, ↓rds14, ↓rds13, ↓rds1, ↓rds2, ↓rds3, ↓rds4, ↓rds5, ↓rds6, ↓rds7, ↓rds8, ↓rds9, ↓rds10, ↓rds11, List.set_cons_zero, List.set_cons_succ, ne_eq, not_false_eq_true, decide_eq_true_eq, Bool.or_true, Bool.or_false, Bool.true_or, Bool.false_or, Bool.and_true, Bool.true_and, Bool.and_false, Bool.false_and, Bool.not_true, Bool.not_false, reduceCtorEq, beq_self_eq_true, true_and, and_true, if_true, if_false, Bool.false_eq_true]
      exact no
  -- names spoilt
  have t7 : ∀ (p q na la : Addr) (kind : Str) (fr : D) (sp : Int) (ns : List Str) (ls : List (List Str)) (h1 : Hd), kind ∈ kds → PoolAt h1 p q ns0 → na ≠ p → la ≠ p → na ≠ la → la ≠ q → h1 na = some (.lst (ns.map sD)) → h1 la = some (.lst (ls.map lD)) → 1 ≤ ns.length → ns.length ≤ 6 → ns.Nodup → (∀ n ∈ ns, NameV n) → LsOk 169 ls → ls.length ≤ 20 →
      rdl7 (fun x _ h' => E x h') (fin Q) [some (.k (intsD ns0)), some (.v (.ref p)), some (.v (.str kind)), some (.v (.ref na)), some (.v (.ref la)), some fr, some (.v (.int sp)), none, none, none, none, none, none, none, none] h1 := by
    intro p q na la kind fr sp ns ls h1 hk P1 np lp nl lq gn gl n1 n6 nd nv lo l20
    unfold rdl7
    have stop : ∀ (na : Addr) (ns : List Str) (h2 : Hd), na ≠ p → na ≠ la → PoolAt h2 p q ns0 → h2 na = some (.lst (ns.map sD)) → h2 la = some (.lst (ls.map lD)) → NmX ns → rdl8 (fun x _ h' => E x h') (fin Q) [some (.k (intsD ns0)), some (.v (.ref p)), some (.v (.str kind)), some (.v (.ref na)), some (.v (.ref la)), some fr, some (.v (.int sp)), none, none, none, none, none, none, none, none] h2 := fun na ns h2 np nl P2 g1 g2 nx => t8 p q na la kind fr sp ns ls h2 hk P2 np lp nl lq g1 g2 nx lo l20
    try simp -dsimp -implicitDefEqProofs only [↓clx_FigureWords, ↓ers, ↓clx_Moves, ↓clx_Behind, ↓rds17, ↓rds15, ↓rds14, ↓rds13, ↓rds1, ↓rds2, ↓rds3, ↓rds4, ↓rds5, ↓rds6, ↓rds7, ↓rds8, ↓rds9, ↓rds10, ↓rds11, List.set_cons_zero, List.set_cons_succ, ne_eq, not_false_eq_true, decide_eq_true_eq, Bool.or_true, Bool.or_false, Bool.true_or, Bool.false_or, Bool.and_true, Bool.true_and, Bool.and_false, Bool.false_and, Bool.not_true, Bool.not_false, reduceCtorEq, beq_self_eq_true, true_and, and_true, if_true, if_false, Bool.false_eq_true]
    refine al_i fun y hy => ?_
    have ny := pool_ne P1 hy
    have P2 := pool_keep (o := .lst [D.v (.int 1), D.v (.int 2), D.v (.int 3), D.v (.int 4), D.v (.int 5)]) P1 hy
    have gy : put h1 y (.lst [D.v (.int 1), D.v (.int 2), D.v (.int 3), D.v (.int 4), D.v (.int 5)]) y = some (.lst [D.v (.int 1), D.v (.int 2), D.v (.int 3), D.v (.int 4), D.v (.int 5)]) := put_same
    have s2 := Sub.put (h := h1) (o := .lst [D.v (.int 1), D.v (.int 2), D.v (.int 3), D.v (.int 4), D.v (.int 5)]) hy
    have gn2 := s2 _ _ gn
    have gl2 := s2 _ _ gl
    generalize put h1 y (.lst [D.v (.int 1), D.v (.int 2), D.v (.int 3), D.v (.int 4), D.v (.int 5)]) = h2 at P2 gy s2 gn2 gl2
    try simp -dsimp -implicitDefEqProofs only [↓clx_FigureWords, ↓ers, ↓clx_Moves, ↓clx_Behind, ↓rds17, ↓rds15, ↓rds14, ↓rds13, ↓rds1, ↓rds2, ↓rds3, ↓rds4, ↓rds5, ↓rds6, ↓rds7, ↓rds8, ↓rds9, ↓rds10, ↓rds11, List.set_cons_zero, List.set_cons_succ, ne_eq, not_false_eq_true, decide_eq_true_eq, Bool.or_true, Bool.or_false, Bool.true_or, Bool.false_or, Bool.and_true, Bool.true_and, Bool.and_false, Bool.false_and, Bool.not_true, Bool.not_false, reduceCtorEq, beq_self_eq_true, true_and, and_true, if_true, if_false, Bool.false_eq_true, gy]
    refine ⟨rfl, rfl, dIte_by (fun c => ?_) fun c => ?_⟩
    · try simp -dsimp -implicitDefEqProofs only [↓clx_FigureWords, ↓ers, ↓clx_Moves, ↓clx_Behind, ↓rds17, ↓rds15, ↓rds14, ↓rds13, ↓rds1, ↓rds2, ↓rds3, ↓rds4, ↓rds5, ↓rds6, ↓rds7, ↓rds8, ↓rds9, ↓rds10, ↓rds11, List.set_cons_zero, List.set_cons_succ, ne_eq, not_false_eq_true, decide_eq_true_eq, Bool.or_true, Bool.or_false, Bool.true_or, Bool.false_or, Bool.and_true, Bool.true_and, Bool.and_false, Bool.false_and, Bool.not_true, Bool.not_false, reduceCtorEq, beq_self_eq_true, true_and, and_true, if_true, if_false, Bool.false_eq_true]
      refine cl_i ⟨rfl, p, q, na, ns0, ns, rfl, P2, gn2, np, n1, n6, nd, nv, fun r v h3 nx hr gr P3 x3 => ?_⟩
      have nr := pool_ne P2 hr
      have gl3 := x3 _ _ lp gl2
      have rl : r ≠ la := fun e => by rw [e, gl2] at hr; cases hr
      have r1 := stop r v h3 nr.1 rl P3 gr gl3 nx
      unfold rdl8 at r1
      try simp -dsimp -implicitDefEqProofs only [↓clx_FigureWords, ↓ers, ↓clx_Moves, ↓clx_Behind, ↓rds17, ↓rds15, ↓rds14, ↓rds13, ↓rds1, ↓rds2, ↓rds3, ↓rds4, ↓rds5, ↓rds6, ↓rds7, ↓rds8, ↓rds9, ↓rds10, ↓rds11, List.set_cons_zero, List.set_cons_succ, ne_eq, not_false_eq_true, decide_eq_true_eq, Bool.or_true, Bool.or_false, Bool.true_or, Bool.false_or, Bool.and_true, Bool.true_and, Bool.and_false, Bool.false_and, Bool.not_true, Bool.not_false, reduceCtorEq, beq_self_eq_true, true_and, and_true, if_true, if_false, Bool.false_eq_true]
      exact r1
    · have r1 := stop na ns h2 np nl P2 gn2 gl2 ⟨.inr nd, by omega, fun n hn => by have := (nv n hn).1.2.1; omega⟩
      unfold rdl8 at r1
      try simp -dsimp -implicitDefEqProofs only [↓clx_FigureWords, ↓ers, ↓clx_Moves, ↓clx_Behind, ↓rds17, ↓rds15, ↓rds14, ↓rds13, ↓rds1, ↓rds2, ↓rds3, ↓rds4, ↓rds5, ↓rds6, ↓rds7, ↓rds8, ↓rds9, ↓rds10, ↓rds11, List.set_cons_zero, List.set_cons_succ, ne_eq, not_false_eq_true, decide_eq_true_eq, Bool.or_true, Bool.or_false, Bool.true_or, Bool.false_or, Bool.and_true, Bool.true_and, Bool.and_false, Bool.false_and, Bool.not_true, Bool.not_false, reduceCtorEq, beq_self_eq_true, true_and, and_true, if_true, if_false, Bool.false_eq_true]
      exact r1
  -- lots, and the free book
  have t3 : ∀ (p q na : Addr) (kind : Str) (ns : List Str) (h1 : Hd), kind ∈ kds → PoolAt h1 p q ns0 → na ≠ p → h1 na = some (.lst (ns.map sD)) → 1 ≤ ns.length → ns.length ≤ 6 → ns.Nodup → (∀ n ∈ ns, NameV n) →
      rdl3 (fun x _ h' => E x h') (fin Q) [some (.k (intsD ns0)), some (.v (.ref p)), some (.v (.str kind)), some (.v (.ref na)), none, none, none, none, none, none, none, none, none, none, none] h1 := by
    intro p q na kind ns h1 hk P1 np gn n1 n6 nd nv
    unfold rdl3
    have hf : headF kind ns = .v .non := by
      have pk : ∀ (l s : List Str), (s ++ l).Nodup → (∀ n ∈ l, nameB n = true) → pkgF l s = .v .non := by
        intro l
        induction l with
        | nil => intro s _ _; rfl
        | cons n r ih =>
          intro s h g
          have nm : n ∉ s := fun k => (List.nodup_append.mp h).2.2 n k n List.mem_cons_self rfl
          show (if nameB n = true then (if n ∈ s then _ else pkgF r (s ++ [n])) else _) = _
          rw [if_pos (g n List.mem_cons_self), if_neg nm]
          exact ih _ (by rw [List.append_assoc]; exact h) fun k hk => g k (List.mem_cons_of_mem _ hk)
      unfold headF namesF
      rw [if_pos hk, if_pos ⟨n1, n6⟩]
      exact pk ns [] (by rw [List.nil_append]; exact nd) fun n hn => nameV_ok (nv n hn)
    have n64 : ∀ n ∈ ns, n.length ≤ 64 := fun n hn => by have := (nv n hn).1.2.1; omega
    try simp -dsimp -implicitDefEqProofs only [↓clx_FigureWords, ↓ers, ↓clx_Moves, ↓clx_Behind, ↓rds17, ↓rds15, ↓rds14, ↓rds13, ↓rds1, ↓rds2, ↓rds3, ↓rds4, ↓rds5, ↓rds6, ↓rds7, ↓rds8, ↓rds9, ↓rds10, ↓rds11, List.set_cons_zero, List.set_cons_succ, ne_eq, not_false_eq_true, decide_eq_true_eq, Bool.or_true, Bool.or_false, Bool.true_or, Bool.false_or, Bool.and_true, Bool.true_and, Bool.and_false, Bool.false_and, Bool.not_true, Bool.not_false, reduceCtorEq, beq_self_eq_true, true_and, and_true, if_true, if_false, Bool.false_eq_true, gn, List.length_map]
    refine cl_i ⟨rfl, p, q, ns0, kind, ns.length, rfl, P1, hk, n6, fun la ls h2 hL l2 hr gl P2 x2 => ?_⟩
    have nr := pool_ne P1 hr
    have nla : na ≠ la := fun e => by rw [← e, gn] at hr; cases hr
    have gn2 := x2 _ _ np gn
    have l20 : ls.length ≤ 20 := by
      have : ns.length = 1 ∨ ns.length = 2 ∨ ns.length = 3 ∨ ns.length = 4 ∨ ns.length = 5 ∨ ns.length = 6 := by omega
      rcases this with e | e | e | e | e | e <;> (rw [l2, e]; decide)
    have lo : LsOk 169 ls := ⟨by omega, fun l hl => ⟨(hL l hl).len hk, fun w hw => by have := (ways_short hk).1 w ((hL l hl).mem hw); omega⟩⟩
    obtain ⟨wk, wn⟩ := ways_short hk
    try simp -dsimp -implicitDefEqProofs only [↓clx_FigureWords, ↓ers, ↓clx_Moves, ↓clx_Behind, ↓rds17, ↓rds15, ↓rds14, ↓rds13, ↓rds1, ↓rds2, ↓rds3, ↓rds4, ↓rds5, ↓rds6, ↓rds7, ↓rds8, ↓rds9, ↓rds10, ↓rds11, List.set_cons_zero, List.set_cons_succ, ne_eq, not_false_eq_true, decide_eq_true_eq, Bool.or_true, Bool.or_false, Bool.true_or, Bool.false_or, Bool.and_true, Bool.true_and, Bool.and_false, Bool.false_and, Bool.not_true, Bool.not_false, reduceCtorEq, beq_self_eq_true, true_and, and_true, if_true, if_false, Bool.false_eq_true, gn2, gl]
    refine cmp_inv (fun acc h' => Sub h2 h' ∧ ∃ i : Nat, acc = List.replicate i (.t ((wsL kind).map sD))) ⟨Sub.refl _, 0, rfl⟩ (fun _ h' s => rdL_l (s.1 _ _ gl)) (show (ls.map lD).length ≤ _ by rw [List.length_map]; omega) ?_ ?_
    · rintro x acc h' hx ⟨s', i, rfl⟩ la2 S2 N hS
      try simp -dsimp -implicitDefEqProofs only [↓clx_FigureWords, ↓ers, ↓clx_Moves, ↓clx_Behind, ↓rds17, ↓rds15, ↓rds14, ↓rds13, ↓rds1, ↓rds2, ↓rds3, ↓rds4, ↓rds5, ↓rds6, ↓rds7, ↓rds8, ↓rds9, ↓rds10, ↓rds11, List.set_cons_zero, List.set_cons_succ, ne_eq, not_false_eq_true, decide_eq_true_eq, Bool.or_true, Bool.or_false, Bool.true_or, Bool.false_or, Bool.and_true, Bool.true_and, Bool.and_false, Bool.false_and, Bool.not_true, Bool.not_false, reduceCtorEq, beq_self_eq_true, true_and, and_true, if_true, if_false, Bool.false_eq_true]
      refine cl_i ⟨rfl, kind, rfl, hk, fun r hr => ?_⟩
      have gr : put h' r (.lst ((wsL kind).map sD)) r = some (.lst ((wsL kind).map sD)) := put_same
      have sr := s'.trans (Sub.put (o := .lst ((wsL kind).map sD)) hr)
      generalize put h' r (.lst ((wsL kind).map sD)) = h3 at gr sr
      try simp -dsimp -implicitDefEqProofs only [↓clx_FigureWords, ↓ers, ↓clx_Moves, ↓clx_Behind, ↓rds17, ↓rds15, ↓rds14, ↓rds13, ↓rds1, ↓rds2, ↓rds3, ↓rds4, ↓rds5, ↓rds6, ↓rds7, ↓rds8, ↓rds9, ↓rds10, ↓rds11, List.set_cons_zero, List.set_cons_succ, ne_eq, not_false_eq_true, decide_eq_true_eq, Bool.or_true, Bool.or_false, Bool.true_or, Bool.false_or, Bool.and_true, Bool.true_and, Bool.and_false, Bool.false_and, Bool.not_true, Bool.not_false, reduceCtorEq, beq_self_eq_true, true_and, and_true, if_true, if_false, Bool.false_eq_true, gr]
      refine hS _ _ ⟨sr, i + 1, by rw [List.replicate_succ']⟩
    rintro acc h3 lacc ⟨s3, i, rfl⟩ d hd
    rw [List.length_replicate, List.length_map] at lacc
    subst lacc
    have s4 := s3.trans (Sub.put (o := .lst (List.replicate ls.length (.t ((wsL kind).map sD)))) hd)
    have g4 : put h3 d (.lst (List.replicate ls.length (.t ((wsL kind).map sD)))) d = some (.lst (List.replicate ls.length (.t ((wsL kind).map sD)))) := put_same
    generalize put h3 d (.lst (List.replicate ls.length (.t ((wsL kind).map sD)))) = h4 at s4 g4
    have gn4 := s4 _ _ gn2
    have gl4 := s4 _ _ gl
    have P4 := P2.up s4
    try simp -dsimp -implicitDefEqProofs only [↓clx_FigureWords, ↓ers, ↓clx_Moves, ↓clx_Behind, ↓rds17, ↓rds15, ↓rds14, ↓rds13, ↓rds1, ↓rds2, ↓rds3, ↓rds4, ↓rds5, ↓rds6, ↓rds7, ↓rds8, ↓rds9, ↓rds10, ↓rds11, List.set_cons_zero, List.set_cons_succ, ne_eq, not_false_eq_true, decide_eq_true_eq, Bool.or_true, Bool.or_false, Bool.true_or, Bool.false_or, Bool.and_true, Bool.true_and, Bool.and_false, Bool.false_and, Bool.not_true, Bool.not_false, reduceCtorEq, beq_self_eq_true, true_and, and_true, if_true, if_false, Bool.false_eq_true, g4, gn4]
    refine cl_i ⟨rfl, kind, ns, rfl, hf, n64, ?_⟩
    rw [← l2]
    try simp -dsimp -implicitDefEqProofs only [↓clx_FigureWords, ↓ers, ↓clx_Moves, ↓clx_Behind, ↓rds17, ↓rds15, ↓rds14, ↓rds13, ↓rds1, ↓rds2, ↓rds3, ↓rds4, ↓rds5, ↓rds6, ↓rds7, ↓rds8, ↓rds9, ↓rds10, ↓rds11, List.set_cons_zero, List.set_cons_succ, ne_eq, not_false_eq_true, decide_eq_true_eq, Bool.or_true, Bool.or_false, Bool.true_or, Bool.false_or, Bool.and_true, Bool.true_and, Bool.and_false, Bool.false_and, Bool.not_true, Bool.not_false, reduceCtorEq, beq_self_eq_true, true_and, and_true, if_true, if_false, Bool.false_eq_true]
    have sm : smD 5 (bookD kind ns (List.replicate ls.length (.t ((wsL kind).map sD)))) := by
      have := smD_bookD 1 (kind := kind) (ns := ns) (ls := List.replicate ls.length (wsL kind)) (by omega) (by rw [List.length_replicate]; omega) fun l hl => by rw [(List.mem_replicate.mp hl).2]; omega
      rw [List.map_replicate] at this
      exact this
    refine cl_i ⟨rfl, _, _, rfl, same_refl sm, ?_⟩
    try simp -dsimp -implicitDefEqProofs only [↓clx_FigureWords, ↓ers, ↓clx_Moves, ↓clx_Behind, ↓rds17, ↓rds15, ↓rds14, ↓rds13, ↓rds1, ↓rds2, ↓rds3, ↓rds4, ↓rds5, ↓rds6, ↓rds7, ↓rds8, ↓rds9, ↓rds10, ↓rds11, List.set_cons_zero, List.set_cons_succ, ne_eq, not_false_eq_true, decide_eq_true_eq, Bool.or_true, Bool.or_false, Bool.true_or, Bool.false_or, Bool.and_true, Bool.true_and, Bool.and_false, Bool.false_and, Bool.not_true, Bool.not_false, reduceCtorEq, beq_self_eq_true, true_and, and_true, if_true, if_false, Bool.false_eq_true]
    refine draw_i P4 (by decide) (by decide) fun k h5 P5 x5 k0 k1 => ?_
    have gn5 := x5 _ _ np gn4
    have gl5 := x5 _ _ nr.1 gl4
    have r := t7 p q na la kind (.t [.v (.str kind), .t (ns.map sD), .t (List.replicate ls.length (.t ((wsL kind).map sD)))]) k ns ls h5 hk P5 np nr.1 nla nr.2 gn5 gl5 n1 n6 nd nv lo l20
    unfold rdl7 at r
    try simp -dsimp -implicitDefEqProofs only [↓clx_FigureWords, ↓ers, ↓clx_Moves, ↓clx_Behind, ↓rds17, ↓rds15, ↓rds14, ↓rds13, ↓rds1, ↓rds2, ↓rds3, ↓rds4, ↓rds5, ↓rds6, ↓rds7, ↓rds8, ↓rds9, ↓rds10, ↓rds11, List.set_cons_zero, List.set_cons_succ, ne_eq, not_false_eq_true, decide_eq_true_eq, Bool.or_true, Bool.or_false, Bool.true_or, Bool.false_or, Bool.and_true, Bool.true_and, Bool.and_false, Bool.false_and, Bool.not_true, Bool.not_false, reduceCtorEq, beq_self_eq_true, true_and, and_true, if_true, if_false, Bool.false_eq_true]
    exact r
  -- the beginning
  try simp -dsimp -implicitDefEqProofs only [↓clx_FigureWords, ↓ers, ↓clx_Moves, ↓clx_Behind, ↓rds17, ↓rds15, ↓rds14, ↓rds13, ↓rds1, ↓rds2, ↓rds3, ↓rds4, ↓rds5, ↓rds6, ↓rds7, ↓rds8, ↓rds9, ↓rds10, ↓rds11, List.set_cons_zero, List.set_cons_succ, ne_eq, not_false_eq_true, decide_eq_true_eq, Bool.or_true, Bool.or_false, Bool.true_or, Bool.false_or, Bool.and_true, Bool.true_and, Bool.and_false, Bool.false_and, Bool.not_true, Bool.not_false, reduceCtorEq, beq_self_eq_true, true_and, and_true, if_true, if_false, Bool.false_eq_true]
  refine cl_i ⟨rfl, ns0, rfl, hl, fun p q hq hp hn => ?_⟩
  have P0 : PoolAt (put (put emp q (O.lst (intsD ns0))) p (poolO q (0, 0, 0))) p q ns0 := ⟨⟨(0, 0, 0), put_same⟩, by rw [put_ne hn, put_same], hn, hl⟩
  generalize put (put emp q (O.lst (intsD ns0))) p (poolO q (0, 0, 0)) = h0 at P0
  try simp -dsimp -implicitDefEqProofs only [↓clx_FigureWords, ↓ers, ↓clx_Moves, ↓clx_Behind, ↓rds17, ↓rds15, ↓rds14, ↓rds13, ↓rds1, ↓rds2, ↓rds3, ↓rds4, ↓rds5, ↓rds6, ↓rds7, ↓rds8, ↓rds9, ↓rds10, ↓rds11, List.set_cons_zero, List.set_cons_succ, ne_eq, not_false_eq_true, decide_eq_true_eq, Bool.or_true, Bool.or_false, Bool.true_or, Bool.false_or, Bool.and_true, Bool.true_and, Bool.and_false, Bool.false_and, Bool.not_true, Bool.not_false, reduceCtorEq, beq_self_eq_true, true_and, and_true, if_true, if_false, Bool.false_eq_true]
  refine al_i fun l hl1 => ?_
  have nl := (pool_ne P0 hl1).1
  have P1 := pool_keep (o := .lst [D.v (.str "line"), D.v (.str "ring"), D.v (.str "box")]) P0 hl1
  have gl : put h0 l (.lst [D.v (.str "line"), D.v (.str "ring"), D.v (.str "box")]) l = some (.lst [D.v (.str "line"), D.v (.str "ring"), D.v (.str "box")]) := put_same
  generalize put h0 l (.lst [D.v (.str "line"), D.v (.str "ring"), D.v (.str "box")]) = h1 at P1 gl
  try simp -dsimp -implicitDefEqProofs only [↓clx_FigureWords, ↓ers, ↓clx_Moves, ↓clx_Behind, ↓rds17, ↓rds15, ↓rds14, ↓rds13, ↓rds1, ↓rds2, ↓rds3, ↓rds4, ↓rds5, ↓rds6, ↓rds7, ↓rds8, ↓rds9, ↓rds10, ↓rds11, List.set_cons_zero, List.set_cons_succ, ne_eq, not_false_eq_true, decide_eq_true_eq, Bool.or_true, Bool.or_false, Bool.true_or, Bool.false_or, Bool.and_true, Bool.true_and, Bool.and_false, Bool.false_and, Bool.not_true, Bool.not_false, reduceCtorEq, beq_self_eq_true, true_and, and_true, if_true, if_false, Bool.false_eq_true]
  refine draw_i P1 (by decide) (by decide) fun k h2 P2 x2 k0 k1 => ?_
  have gl2 := x2 _ _ nl gl
  obtain ⟨kind, hk, ek⟩ := kinds3 k0 k1
  try simp -dsimp -implicitDefEqProofs only [↓clx_FigureWords, ↓ers, ↓clx_Moves, ↓clx_Behind, ↓rds17, ↓rds15, ↓rds14, ↓rds13, ↓rds1, ↓rds2, ↓rds3, ↓rds4, ↓rds5, ↓rds6, ↓rds7, ↓rds8, ↓rds9, ↓rds10, ↓rds11, List.set_cons_zero, List.set_cons_succ, ne_eq, not_false_eq_true, decide_eq_true_eq, Bool.or_true, Bool.or_false, Bool.true_or, Bool.false_or, Bool.and_true, Bool.true_and, Bool.and_false, Bool.false_and, Bool.not_true, Bool.not_false, reduceCtorEq, beq_self_eq_true, true_and, and_true, if_true, if_false, Bool.false_eq_true, gl2, ek, sD]
  refine dIte_by (fun e0 => ?_) fun e0 => ?_
  · try simp -dsimp -implicitDefEqProofs only [↓clx_FigureWords, ↓ers, ↓clx_Moves, ↓clx_Behind, ↓rds17, ↓rds15, ↓rds14, ↓rds13, ↓rds1, ↓rds2, ↓rds3, ↓rds4, ↓rds5, ↓rds6, ↓rds7, ↓rds8, ↓rds9, ↓rds10, ↓rds11, List.set_cons_zero, List.set_cons_succ, ne_eq, not_false_eq_true, decide_eq_true_eq, Bool.or_true, Bool.or_false, Bool.true_or, Bool.false_or, Bool.and_true, Bool.true_and, Bool.and_false, Bool.false_and, Bool.not_true, Bool.not_false, reduceCtorEq, beq_self_eq_true, true_and, and_true, if_true, if_false, Bool.false_eq_true]
    refine draw_i P2 (by decide) (by decide) fun k h3 P3 x3 k0 k1 => ?_
    obtain ⟨c, c1, c6, rfl⟩ : ∃ c : Nat, 1 ≤ c ∧ c ≤ 6 ∧ k = (c : Int) - 1 := ⟨(k + 1).toNat, by omega, by omega, by omega⟩
    have ec : 1 + ((c : Int) - 1) = (c : Int) := by omega
    try simp -dsimp -implicitDefEqProofs only [↓clx_FigureWords, ↓ers, ↓clx_Moves, ↓clx_Behind, ↓rds17, ↓rds15, ↓rds14, ↓rds13, ↓rds1, ↓rds2, ↓rds3, ↓rds4, ↓rds5, ↓rds6, ↓rds7, ↓rds8, ↓rds9, ↓rds10, ↓rds11, List.set_cons_zero, List.set_cons_succ, ne_eq, not_false_eq_true, decide_eq_true_eq, Bool.or_true, Bool.or_false, Bool.true_or, Bool.false_or, Bool.and_true, Bool.true_and, Bool.and_false, Bool.false_and, Bool.not_true, Bool.not_false, reduceCtorEq, beq_self_eq_true, true_and, and_true, if_true, if_false, Bool.false_eq_true]
    rw [ec]
    refine cl_i ⟨rfl, p, q, ns0, c, rfl, P3, by omega, fun ns h4 lc nd hn4 P4 x4 => ?_⟩
    subst lc
    try simp -dsimp -implicitDefEqProofs only [↓clx_FigureWords, ↓ers, ↓clx_Moves, ↓clx_Behind, ↓rds17, ↓rds15, ↓rds14, ↓rds13, ↓rds1, ↓rds2, ↓rds3, ↓rds4, ↓rds5, ↓rds6, ↓rds7, ↓rds8, ↓rds9, ↓rds10, ↓rds11, List.set_cons_zero, List.set_cons_succ, ne_eq, not_false_eq_true, decide_eq_true_eq, Bool.or_true, Bool.or_false, Bool.true_or, Bool.false_or, Bool.and_true, Bool.true_and, Bool.and_false, Bool.false_and, Bool.not_true, Bool.not_false, reduceCtorEq, beq_self_eq_true, true_and, and_true, if_true, if_false, Bool.false_eq_true]
    refine al_i fun na hna => ?_
    have nn := pool_ne P4 hna
    have P5 := pool_keep (o := .lst (ns.map sD)) P4 hna
    have g5 : put h4 na (.lst (ns.map sD)) na = some (.lst (ns.map sD)) := put_same
    generalize put h4 na (.lst (ns.map sD)) = h5 at P5 g5
    have r := t3 p q na kind ns h5 hk P5 nn.1 g5 c1 c6 nd hn4
    unfold rdl3 at r
    try simp -dsimp -implicitDefEqProofs only [↓clx_FigureWords, ↓ers, ↓clx_Moves, ↓clx_Behind, ↓rds17, ↓rds15, ↓rds14, ↓rds13, ↓rds1, ↓rds2, ↓rds3, ↓rds4, ↓rds5, ↓rds6, ↓rds7, ↓rds8, ↓rds9, ↓rds10, ↓rds11, List.set_cons_zero, List.set_cons_succ, ne_eq, not_false_eq_true, decide_eq_true_eq, Bool.or_true, Bool.or_false, Bool.true_or, Bool.false_or, Bool.and_true, Bool.true_and, Bool.and_false, Bool.false_and, Bool.not_true, Bool.not_false, reduceCtorEq, beq_self_eq_true, true_and, and_true, if_true, if_false, Bool.false_eq_true, g5, List.length_map] at r
    try simp -dsimp -implicitDefEqProofs only [↓clx_FigureWords, ↓ers, ↓clx_Moves, ↓clx_Behind, ↓rds17, ↓rds15, ↓rds14, ↓rds13, ↓rds1, ↓rds2, ↓rds3, ↓rds4, ↓rds5, ↓rds6, ↓rds7, ↓rds8, ↓rds9, ↓rds10, ↓rds11, List.set_cons_zero, List.set_cons_succ, ne_eq, not_false_eq_true, decide_eq_true_eq, Bool.or_true, Bool.or_false, Bool.true_or, Bool.false_or, Bool.and_true, Bool.true_and, Bool.and_false, Bool.false_and, Bool.not_true, Bool.not_false, reduceCtorEq, beq_self_eq_true, true_and, and_true, if_true, if_false, Bool.false_eq_true, g5, List.length_map]
    exact r
  · try simp -dsimp -implicitDefEqProofs only [↓clx_FigureWords, ↓ers, ↓clx_Moves, ↓clx_Behind, ↓rds17, ↓rds15, ↓rds14, ↓rds13, ↓rds1, ↓rds2, ↓rds3, ↓rds4, ↓rds5, ↓rds6, ↓rds7, ↓rds8, ↓rds9, ↓rds10, ↓rds11, List.set_cons_zero, List.set_cons_succ, ne_eq, not_false_eq_true, decide_eq_true_eq, Bool.or_true, Bool.or_false, Bool.true_or, Bool.false_or, Bool.and_true, Bool.true_and, Bool.and_false, Bool.false_and, Bool.not_true, Bool.not_false, reduceCtorEq, beq_self_eq_true, true_and, and_true, if_true, if_false, Bool.false_eq_true]
    refine draw_i P2 (by decide) (by decide) fun k h3 P3 x3 k0 k1 => ?_
    obtain ⟨c, c1, c6, rfl⟩ : ∃ c : Nat, 1 ≤ c ∧ c ≤ 6 ∧ k = (c : Int) - 1 := ⟨(k + 1).toNat, by omega, by omega, by omega⟩
    have ec : 1 + ((c : Int) - 1) = (c : Int) := by omega
    try simp -dsimp -implicitDefEqProofs only [↓clx_FigureWords, ↓ers, ↓clx_Moves, ↓clx_Behind, ↓rds17, ↓rds15, ↓rds14, ↓rds13, ↓rds1, ↓rds2, ↓rds3, ↓rds4, ↓rds5, ↓rds6, ↓rds7, ↓rds8, ↓rds9, ↓rds10, ↓rds11, List.set_cons_zero, List.set_cons_succ, ne_eq, not_false_eq_true, decide_eq_true_eq, Bool.or_true, Bool.or_false, Bool.true_or, Bool.false_or, Bool.and_true, Bool.true_and, Bool.and_false, Bool.false_and, Bool.not_true, Bool.not_false, reduceCtorEq, beq_self_eq_true, true_and, and_true, if_true, if_false, Bool.false_eq_true]
    rw [ec]
    refine cl_i ⟨rfl, p, q, ns0, c, rfl, P3, by omega, fun ns h4 lc nd hn4 P4 x4 => ?_⟩
    subst lc
    try simp -dsimp -implicitDefEqProofs only [↓clx_FigureWords, ↓ers, ↓clx_Moves, ↓clx_Behind, ↓rds17, ↓rds15, ↓rds14, ↓rds13, ↓rds1, ↓rds2, ↓rds3, ↓rds4, ↓rds5, ↓rds6, ↓rds7, ↓rds8, ↓rds9, ↓rds10, ↓rds11, List.set_cons_zero, List.set_cons_succ, ne_eq, not_false_eq_true, decide_eq_true_eq, Bool.or_true, Bool.or_false, Bool.true_or, Bool.false_or, Bool.and_true, Bool.true_and, Bool.and_false, Bool.false_and, Bool.not_true, Bool.not_false, reduceCtorEq, beq_self_eq_true, true_and, and_true, if_true, if_false, Bool.false_eq_true]
    refine al_i fun na hna => ?_
    have nn := pool_ne P4 hna
    have P5 := pool_keep (o := .lst (ns.map sD)) P4 hna
    have g5 : put h4 na (.lst (ns.map sD)) na = some (.lst (ns.map sD)) := put_same
    generalize put h4 na (.lst (ns.map sD)) = h5 at P5 g5
    have r := t3 p q na kind ns h5 hk P5 nn.1 g5 c1 c6 nd hn4
    unfold rdl3 at r
    try simp -dsimp -implicitDefEqProofs only [↓clx_FigureWords, ↓ers, ↓clx_Moves, ↓clx_Behind, ↓rds17, ↓rds15, ↓rds14, ↓rds13, ↓rds1, ↓rds2, ↓rds3, ↓rds4, ↓rds5, ↓rds6, ↓rds7, ↓rds8, ↓rds9, ↓rds10, ↓rds11, List.set_cons_zero, List.set_cons_succ, ne_eq, not_false_eq_true, decide_eq_true_eq, Bool.or_true, Bool.or_false, Bool.true_or, Bool.false_or, Bool.and_true, Bool.true_and, Bool.and_false, Bool.false_and, Bool.not_true, Bool.not_false, reduceCtorEq, beq_self_eq_true, true_and, and_true, if_true, if_false, Bool.false_eq_true, g5, List.length_map] at r
    try simp -dsimp -implicitDefEqProofs only [↓clx_FigureWords, ↓ers, ↓clx_Moves, ↓clx_Behind, ↓rds17, ↓rds15, ↓rds14, ↓rds13, ↓rds1, ↓rds2, ↓rds3, ↓rds4, ↓rds5, ↓rds6, ↓rds7, ↓rds8, ↓rds9, ↓rds10, ↓rds11, List.set_cons_zero, List.set_cons_succ, ne_eq, not_false_eq_true, decide_eq_true_eq, Bool.or_true, Bool.or_false, Bool.true_or, Bool.false_or, Bool.and_true, Bool.true_and, Bool.and_false, Bool.false_and, Bool.not_true, Bool.not_false, reduceCtorEq, beq_self_eq_true, true_and, and_true, if_true, if_false, Bool.false_eq_true, g5, List.length_map]
    exact r
end Lk15
namespace Lk15
open PySem L2 DL
set_option maxHeartbeats 0
def top (i : Nat) : Stmt := PySem.Challenge.pw_stretchways_k15_faults_of_books.main.body.getD i (.Pass ⟨0, 0, 0, 0⟩)
abbrev s_law_pool : Stmt := top 34
abbrev s_law_draw : Stmt := top 35
abbrev s_law_names : Stmt := top 40
abbrev s_law_ways : Stmt := top 37
abbrev s_law_lot : Stmt := top 38
abbrev s_law_drawn_lot : Stmt := top 39
abbrev s_law_drawn_lots : Stmt := top 41
abbrev s_is_name : Stmt := top 4
abbrev s_names_fault : Stmt := top 28
abbrev s_head_fault : Stmt := top 29
abbrev s_number_pairs : Stmt := top 9
abbrev s_ways : Stmt := top 20
abbrev s_free_book : Stmt := top 32
abbrev s_law_same : Stmt := top 36
abbrev s_law_spoilt_names : Stmt := top 44
abbrev s_law_spoilt_lot : Stmt := top 45
abbrev s_law_is_name : Stmt := top 42
abbrev s_law_is_lot : Stmt := top 43
abbrev s_law_fault : Stmt := top 46
abbrev s_is_way : Stmt := top 21
abbrev s_has_doubles : Stmt := top 5
abbrev s_place_of : Stmt := top 22
abbrev s_ordered : Stmt := top 24
abbrev s_is_lot : Stmt := top 25
abbrev s_book_fault : Stmt := top 30
abbrev s_make_book : Stmt := top 31
abbrev s_law_made : Stmt := top 47
abbrev s_law : Stmt := top 48
structure Txt (P : Program) (K : PySem.W.Frag) (mg : Str → Option Value) (w : World) : Prop where
  n_int : mg "int" = none
  n_len : mg "len" = none
  n_range : mg "range" = none
  n_tuple : mg "tuple" = none
  n_list : mg "list" = none
  n_isinstance : mg "isinstance" = none
  n_bool : mg "bool" = none
  n_str : mg "str" = none
  n_sorted : mg "sorted" = none
  e_UnknownKind : ExD P K mg "UnknownKind" ["kind"]
  e_BadFault : ExD P K mg "BadFault" ["fault"]
  er : ErT K mg (tabOf erL) erOwn erFt (erL.map (·.1))
  i_RING : KTp K mg "RING" c_RING
  c_MOST_SIGNS : KC K mg "MOST_SIGNS" c_MOST_SIGNS
  c_LETTERS : KC K mg "LETTERS" c_LETTERS
  c_FIGURES : KC K mg "FIGURES" c_FIGURES
  c_MOST_BOOK_NAMES : KC K mg "MOST_BOOK_NAMES" c_MOST_BOOK_NAMES
  c_KINDS : KC K mg "KINDS" c_KINDS
  c_LINE : KC K mg "LINE" c_LINE
  c_RING : KC K mg "RING" c_RING
  d_law_pool : Df K mg "_law_pool" s_law_pool ["script"]
  d_law_draw : Df K mg "_law_draw" s_law_draw ["pool", "many"]
  d_law_names : Df K mg "_law_names" s_law_names ["pool", "count"]
  d_law_ways : Df K mg "_law_ways" s_law_ways ["kind"]
  d_law_lot : Df K mg "_law_lot" s_law_lot ["kind", "words"]
  d_law_drawn_lot : Df K mg "_law_drawn_lot" s_law_drawn_lot ["pool", "kind", "most"]
  d_law_drawn_lots : Df K mg "_law_drawn_lots" s_law_drawn_lots ["pool", "kind", "count"]
  d_is_name : Df K mg "is_name" s_is_name ["word"]
  d_names_fault : Df K mg "names_fault" s_names_fault ["names"]
  d_head_fault : Df K mg "head_fault" s_head_fault ["kind", "names"]
  d_number_pairs : Df K mg "number_pairs" s_number_pairs ["count"]
  d_ways : Df K mg "ways" s_ways ["kind"]
  d_free_book : Df K mg "free_book" s_free_book ["kind", "names"]
  d_law_same : Df K mg "_law_same" s_law_same ["actual", "due"]
  d_law_spoilt_names : Df K mg "_law_spoilt_names" s_law_spoilt_names ["pool", "names"]
  d_law_spoilt_lot : Df K mg "_law_spoilt_lot" s_law_spoilt_lot ["pool", "kind", "lot"]
  d_law_is_name : Df K mg "_law_is_name" s_law_is_name ["word"]
  d_law_is_lot : Df K mg "_law_is_lot" s_law_is_lot ["kind", "value"]
  d_law_fault : Df K mg "_law_fault" s_law_fault ["kind", "names", "lots"]
  d_is_way : Df K mg "is_way" s_is_way ["kind", "word"]
  d_has_doubles : Df K mg "has_doubles" s_has_doubles ["values"]
  d_place_of : Df K mg "place_of" s_place_of ["kind", "way"]
  d_ordered : Df K mg "ordered" s_ordered ["kind", "words"]
  d_is_lot : Df K mg "is_lot" s_is_lot ["kind", "value"]
  d_book_fault : Df K mg "book_fault" s_book_fault ["kind", "names", "lots"]
  d_make_book : Df K mg "make_book" s_make_book ["kind", "names", "lots"]
  d_law_made : Df K mg "_law_made" s_law_made ["kind", "names", "lots"]
section
variable {P : Program} {w : World} {K : PySem.W.Frag} {mg : Str → Option Value} {base : Heap}
theorem sc_law_pool : FnScope ["script", "cell"] ["script"] (defScope s_law_pool) := ⟨rfl, rfl, rfl, by decide +kernel, rfl, by decide +kernel, by decide +kernel⟩
theorem fn_law_pool (T : Txt P K mg w) : Fd P w K mg base "_law_pool" 1 ["script"] sp_law_pool :=
  Fd.of T.d_law_pool sc_law_pool (fun _ _ _ _ q => q.1) rd_law_pool (fun f cdv A outer s H EV B E rg hr => have nd := sc_law_pool.nd
    ds_one (ds_ret (de_lst (da_cons (de_lc rg nd (di_any (de_sl (de_var 0) (do_none) (do_some (de_int)))) (blkOk_by (own := [("cell", 1)]) (N := N_law_pool) (sc := defScope s_law_pool) (by decide +kernel)) (fun _ _ _ _ _ => pg_name (i := 1) nd rfl (Or.inl rfl)) gw_name (fun _ _ _ _ _ => dts_nil) (fun _ _ _ _ _ => de_var 1)) (da_cons (de_int) (da_cons (de_int) (da_cons (de_int) (da_nil)))))))) ok_law_pool
theorem sc_law_draw : FnScope ["pool", "many", "cell", "one", "two", "found"] ["pool", "many"] (defScope s_law_draw) := ⟨rfl, rfl, rfl, by decide +kernel, rfl, by decide +kernel, by decide +kernel⟩
theorem fn_law_draw (T : Txt P K mg w) : Fd P w K mg base "_law_draw" 1 ["pool", "many"] sp_law_draw :=
  Fd.of T.d_law_draw sc_law_draw (fun _ _ _ _ q => q.1) rd_law_draw (fun f cdv A outer s H EV B E rg hr => have nd := sc_law_draw.nd
    ds_cons (ds_asg (de_op do_add (de_it hr (de_var 0) (de_int)) (de_int)) (dg_sub (de_var 0) (de_int) (dset_all hr)))
    (ds_cons (ds_if (dt_cmp do_gt (de_it hr (de_var 0) (de_int)) (de_int)) (ds_cons (ds_set (i := 5) nd (de_op do_mod (de_callTy ca_int T.n_int PyProof.Rows.boot_int (da_cons (de_it hr (de_var 0) (de_int)) (da_nil))) (de_var 1)))
    (ds_cons (ds_asg (de_op do_fdv (de_it hr (de_var 0) (de_int)) (de_var 1)) (dg_sub (de_var 0) (de_int) (dset_all hr)))
    (ds_one (ds_ret (de_var 5))))) (ds_nil))
    (ds_cons (ds_set (i := 2) nd (de_int))
    (ds_cons (ds_if (dt_cmp do_gt (de_callB ca_len T.n_len PySem.boot_len (da_cons (de_it hr (de_var 0) (de_int)) (da_nil))) (de_int)) (ds_cons (ds_set (i := 2) nd (de_it hr (de_it hr (de_var 0) (de_int)) (de_op do_mod (de_callTy ca_int T.n_int PyProof.Rows.boot_int (da_cons (de_it hr (de_var 0) (de_int)) (da_nil))) (de_callB ca_len T.n_len PySem.boot_len (da_cons (de_it hr (de_var 0) (de_int)) (da_nil))))))
    (ds_cons (ds_asg (de_op do_add (de_it hr (de_var 0) (de_int)) (de_int)) (dg_sub (de_var 0) (de_int) (dset_all hr)))
    (ds_one (ds_if (DW.dt (dw_and (dt_cmp do_le (de_it hr (de_var 0) (de_int)) (de_callB ca_len T.n_len PySem.boot_len (da_cons (de_it hr (de_var 0) (de_int)) (da_nil)))) (dw_and1 (dt_cmp do_ge (de_var 2) (de_op do_pow (de_int) (de_int)))))) (ds_cons (ds_asg (de_op do_fdv (de_var 2) (de_var 1)) (dg_sub (de_var 0) (de_int) (dset_all hr)))
    (ds_one (ds_ret (de_op do_mod (de_callTy ca_int T.n_int PyProof.Rows.boot_int (da_cons (de_var 2) (da_nil))) (de_var 1))))) (ds_nil))))) (ds_nil))
    (ds_cons (ds_set (i := 3) nd (de_op do_mod (de_callTy ca_int T.n_int PyProof.Rows.boot_int (da_cons (de_op do_add (de_op do_add (de_op do_mul (de_var 2) (de_int)) (de_op do_mul (de_it hr (de_var 0) (de_int)) (de_int))) (de_int)) (da_nil))) (de_int)))
    (ds_cons (ds_set (i := 4) nd (de_op do_mod (de_callTy ca_int T.n_int PyProof.Rows.boot_int (da_cons (de_op do_add (de_op do_add (de_op do_mul (de_var 3) (de_var 3)) (de_op do_fdv (de_var 2) (de_int))) (de_it hr (de_var 0) (de_int))) (da_nil))) (de_int)))
    (ds_one (ds_ret (de_op do_mod (de_op do_fdv (de_op do_mod (de_callTy ca_int T.n_int PyProof.Rows.boot_int (da_cons (de_op do_add (de_op do_mul (de_var 4) (de_int)) (de_var 3)) (da_nil))) (de_int)) (de_int)) (de_var 1)))))))))) ok_law_draw
theorem sc_law_names : FnScope ["pool", "count", "letters", "found", "alike", "start", "number", "name", "turn", "fresh", "sign"] ["pool", "count"] (defScope s_law_names) := ⟨rfl, rfl, rfl, by decide +kernel, rfl, by decide +kernel, by decide +kernel⟩
theorem fn_law_names (T : Txt P K mg w) (C_law_draw : Fd P w K mg base "_law_draw" 1 ["pool", "many"] sp_law_draw) : Fd P w K mg base "_law_names" 2 ["pool", "count"] sp_law_names :=
  Fd.of T.d_law_names sc_law_names (fun _ _ _ _ q => q.1) rd_law_names (fun f cdv A outer s H EV B E rg hr => have nd := sc_law_names.nd
    ds_cons (ds_set (i := 2) nd (de_str))
    (ds_cons (ds_set (i := 3) nd (de_lst (da_nil)))
    (ds_cons (ds_set (i := 4) nd (de_callF C_law_draw hr rg (da_cons (de_var 0) (da_cons (de_int) (da_nil)))))
    (ds_cons (ds_set (i := 5) nd (de_it hr (de_var 2) (de_callF C_law_draw hr rg (da_cons (de_var 0) (da_cons (de_int) (da_nil))))))
    (ds_cons (ds_for rg (di_range1 T.n_range (da_cons (de_var 1) (da_nil))) (dg_name (i := 6) nd) (ds_cons (ds_set (i := 7) nd (de_if (dt_cmp (do_eqA hr) (de_var 4) (de_int)) (de_var 5) (de_it hr (de_var 2) (de_callF C_law_draw hr rg (da_cons (de_var 0) (da_cons (de_int) (da_nil)))))))
    (ds_cons (ds_for rg (di_range1 T.n_range (da_cons (de_callF C_law_draw hr rg (da_cons (de_var 0) (da_cons (de_int) (da_nil)))) (da_nil))) (dg_name (i := 8) nd) (ds_one (ds_set (i := 7) nd (de_op do_add (de_var 7) (de_it hr (de_op do_add (de_var 2) (de_str)) (de_callF C_law_draw hr rg (da_cons (de_var 0) (da_cons (de_int) (da_nil)))))))))
    (ds_cons (ds_if (dt_cmp (do_mem hr) (de_var 7) (de_var 3)) (ds_cons (ds_setLc (i := 9) rg nd rfl rfl (sw_true rfl rfl rfl (by decide +kernel)) (di_any (de_str)) (blkOk_by (own := [("sign", 10)]) (N := N_law_names) (sc := defScope s_law_names) (by decide +kernel)) (fun _ _ _ _ _ => pg_name (i := 10) nd rfl (Or.inl rfl)) gw_name (fun _ _ _ _ _ => dts_one (dt_cmp (do_notmem hr) (de_op do_add (de_sl (de_var 7) (do_none) (do_some (de_int))) (de_var 10)) (de_var 3))) (fun _ _ _ _ _ => de_op do_add (de_sl (de_var 7) (do_none) (do_some (de_int))) (de_var 10)))
    (ds_one (ds_set (i := 7) nd (de_it hr (de_var 9) (de_callF C_law_draw hr rg (da_cons (de_var 0) (da_cons (de_callB ca_len T.n_len PySem.boot_len (da_cons (de_var 9) (da_nil))) (da_nil)))))))) (ds_nil))
    (ds_one (ds_expr (de_bm PySem.F.plainAttrs_list PySem.F.slot_list_append PySem.F.type_list_append dm_append (de_var 3) (da_cons (de_var 7) (da_nil)))))))))
    (ds_one (ds_ret (de_callTy ca_tuple T.n_tuple PyProof.Rows.boot_tuple (da_cons (de_var 3) (da_nil)))))))))) ok_law_names
theorem sc_law_ways : FnScope ["kind", "line", "found", "one", "other"] ["kind"] (defScope s_law_ways) := ⟨rfl, rfl, rfl, by decide +kernel, rfl, by decide +kernel, by decide +kernel⟩
theorem fn_law_ways (T : Txt P K mg w) : Fd P w K mg base "_law_ways" 1 ["kind"] sp_law_ways :=
  Fd.of T.d_law_ways sc_law_ways (fun _ _ _ _ q => q.1) rd_law_ways (fun f cdv A outer s H EV B E rg hr => have nd := sc_law_ways.nd
    ds_cons (ds_set (i := 1) nd (de_callTy (ca_list rg.calm) T.n_list PyProof.Rows.boot_list (da_cons (de_str) (da_nil))))
    (ds_cons (ds_if (dt_cmp (do_eqA hr) (de_var 0) (de_str)) (ds_one (ds_ret (de_var 1))) (ds_nil))
    (ds_cons (ds_if (dt_cmp (do_eqA hr) (de_var 0) (de_str)) (ds_one (ds_ret (de_bm PySem.F.plainAttrs_str PySem.F.slot_str_split PySem.F.type_str_split dm_split (de_str) (da_cons (de_str) (da_nil))))) (ds_nil))
    (ds_cons (ds_set (i := 2) nd (de_lst (da_nil)))
    (ds_cons (ds_for rg (di_any (de_var 1)) (dg_name (i := 3) nd) (ds_one (ds_set (i := 2) nd (de_op do_add (de_var 2) (de_lc rg nd (di_any (de_var 1)) (blkOk_by (own := [("other", 4)]) (N := N_law_ways) (sc := defScope s_law_ways) (by decide +kernel)) (fun _ _ _ _ _ => pg_name (i := 4) nd rfl (Or.inl rfl)) gw_name (fun _ _ _ _ _ => dts_nil) (fun _ _ _ _ _ => de_op do_add (de_var 3) (de_var 4)))))))
    (ds_one (ds_ret (de_var 2)))))))) ok_law_ways
theorem sc_law_lot : FnScope ["kind", "words", "inner", "word", "way"] ["kind", "words"] (defScope s_law_lot) := ⟨rfl, rfl, rfl, by decide +kernel, rfl, by decide +kernel, by decide +kernel⟩
theorem fn_law_lot (T : Txt P K mg w) (C_law_ways : Fd P w K mg base "_law_ways" 1 ["kind"] sp_law_ways) : Fd P w K mg base "_law_lot" 2 ["kind", "words"] sp_law_lot :=
  Fd.of T.d_law_lot sc_law_lot (fun _ _ _ _ q => q.1) rd_law_lot (fun f cdv A outer s H EV B E rg hr => have nd := sc_law_lot.nd
    ds_cons (ds_set (i := 2) nd (de_dnew))
    (ds_cons (ds_forA rg (de_var 1) (dg_name (i := 3) nd) (ds_one (ds_asg (de_bl) (dg_sub (de_var 2) (de_var 3) (dset_all hr)))))
    (ds_one (ds_ret (de_callTy ca_tuple T.n_tuple PyProof.Rows.boot_tuple (da_cons (de_lc rg nd (di_any (de_callF C_law_ways hr rg (da_cons (de_var 0) (da_nil)))) (blkOk_by (own := [("way", 4)]) (N := N_law_lot) (sc := defScope s_law_lot) (by decide +kernel)) (fun _ _ _ _ _ => pg_name (i := 4) nd rfl (Or.inl rfl)) gw_name (fun _ _ _ _ _ => dts_one (dt_cmp (do_mem hr) (de_var 4) (de_var 2))) (fun _ _ _ _ _ => de_var 4)) (da_nil))))))) ok_law_lot
theorem sc_law_drawn_lot : FnScope ["pool", "kind", "most", "every", "choice", "found", "turn", "way"] ["pool", "kind", "most"] (defScope s_law_drawn_lot) := ⟨rfl, rfl, rfl, by decide +kernel, rfl, by decide +kernel, by decide +kernel⟩
theorem fn_law_drawn_lot (T : Txt P K mg w) (C_law_ways : Fd P w K mg base "_law_ways" 1 ["kind"] sp_law_ways) (C_law_draw : Fd P w K mg base "_law_draw" 1 ["pool", "many"] sp_law_draw) (C_law_lot : Fd P w K mg base "_law_lot" 2 ["kind", "words"] sp_law_lot) : Fd P w K mg base "_law_drawn_lot" 3 ["pool", "kind", "most"] sp_law_drawn_lot :=
  Fd.of T.d_law_drawn_lot sc_law_drawn_lot (fun _ _ _ _ q => q.1) rd_law_drawn_lot (fun f cdv A outer s H EV B E rg hr => have nd := sc_law_drawn_lot.nd
    ds_cons (ds_set (i := 3) nd (de_callF C_law_ways hr rg (da_cons (de_var 1) (da_nil))))
    (ds_cons (ds_set (i := 4) nd (de_callF C_law_draw hr rg (da_cons (de_var 0) (da_cons (de_int) (da_nil)))))
    (ds_cons (ds_if (dt_cmp (do_eqA hr) (de_var 4) (de_int)) (ds_one (ds_ret (de_callTy ca_tuple T.n_tuple PyProof.Rows.boot_tuple (da_cons (de_var 3) (da_nil))))) (ds_nil))
    (ds_cons (ds_if (dt_cmp (do_eqA hr) (de_var 4) (de_int)) (ds_one (ds_ret (de_tup (da_nil)))) (ds_nil))
    (ds_cons (ds_set (i := 5) nd (de_lc rg nd (di_range1 T.n_range (da_cons (de_op do_add (de_int) (de_callF C_law_draw hr rg (da_cons (de_var 0) (da_cons (de_var 2) (da_nil))))) (da_nil))) (blkOk_by (own := [("turn", 6)]) (N := N_law_drawn_lot) (sc := defScope s_law_drawn_lot) (by decide +kernel)) (fun _ _ _ _ _ => pg_name (i := 6) nd rfl (Or.inl rfl)) gw_name (fun _ _ _ _ _ => dts_nil) (fun _ _ _ _ _ => de_it hr (de_var 3) (de_callF C_law_draw hr (Rg.none rg.calm PassesOwn.never) (da_cons (de_var 0) (da_cons (de_callB ca_len T.n_len PySem.boot_len (da_cons (de_var 3) (da_nil))) (da_nil)))))))
    (ds_cons (ds_if (dt_cmp (do_eqA hr) (de_var 4) (de_int)) (ds_one (ds_ret (de_callTy ca_tuple T.n_tuple PyProof.Rows.boot_tuple (da_cons (de_lc rg nd (di_any (de_var 3)) (blkOk_by (own := [("way", 7)]) (N := N_law_drawn_lot) (sc := defScope s_law_drawn_lot) (by decide +kernel)) (fun _ _ _ _ _ => pg_name (i := 7) nd rfl (Or.inl rfl)) gw_name (fun _ _ _ _ _ => dts_one (dt_cmp (do_notmem hr) (de_var 7) (de_var 5))) (fun _ _ _ _ _ => de_var 7)) (da_nil))))) (ds_nil))
    (ds_one (ds_ret (de_callF C_law_lot hr rg (da_cons (de_var 1) (da_cons (de_var 5) (da_nil)))))))))))) ok_law_drawn_lot
theorem sc_law_drawn_lots : FnScope ["pool", "kind", "count", "found", "first", "second"] ["pool", "kind", "count"] (defScope s_law_drawn_lots) := ⟨rfl, rfl, rfl, by decide +kernel, rfl, by decide +kernel, by decide +kernel⟩
theorem fn_law_drawn_lots (T : Txt P K mg w) (C_law_drawn_lot : Fd P w K mg base "_law_drawn_lot" 3 ["pool", "kind", "most"] sp_law_drawn_lot) : Fd P w K mg base "_law_drawn_lots" 4 ["pool", "kind", "count"] sp_law_drawn_lots :=
  Fd.of T.d_law_drawn_lots sc_law_drawn_lots (fun _ _ _ _ q => q.1) rd_law_drawn_lots (fun f cdv A outer s H EV B E rg hr => have nd := sc_law_drawn_lots.nd
    ds_cons (ds_set (i := 3) nd (de_lst (da_nil)))
    (ds_cons (ds_for rg (di_range1 T.n_range (da_cons (de_var 2) (da_nil))) (dg_name (i := 4) nd) (ds_one (ds_for rg (di_range2 T.n_range (da_cons (de_op do_add (de_var 4) (de_int)) (da_cons (de_var 2) (da_nil)))) (dg_name (i := 5) nd) (ds_one (ds_expr (de_bm PySem.F.plainAttrs_list PySem.F.slot_list_append PySem.F.type_list_append dm_append (de_var 3) (da_cons (de_callF C_law_drawn_lot hr rg (da_cons (de_var 0) (da_cons (de_var 1) (da_cons (de_int) (da_nil))))) (da_nil))))))))
    (ds_one (ds_ret (de_var 3))))) ok_law_drawn_lots
theorem sc_is_name : FnScope ["word", "sign"] ["word"] (defScope s_is_name) := ⟨rfl, rfl, rfl, by decide +kernel, rfl, by decide +kernel, by decide +kernel⟩
theorem fn_is_name (T : Txt P K mg w) : Fd P w K mg base "is_name" 1 ["word"] sp_is_name :=
  Fd.of T.d_is_name sc_is_name (fun _ _ _ _ q => q.1) rd_is_name (fun f cdv A outer s H EV B E rg hr => have nd := sc_is_name.nd
    ds_cons (ds_if (DW.dt (dw_or (dt_cmp (do_eqA hr) (de_var 0) (de_str)) (dw_or (dt_cmp do_gt (de_callB ca_len T.n_len PySem.boot_len (da_cons (de_var 0) (da_nil))) (de_gc T.c_MOST_SIGNS)) (dw_or1 (dt_cmp (do_notmem hr) (de_it hr (de_var 0) (de_int)) (de_gc T.c_LETTERS)))))) (ds_one (ds_ret (de_bl))) (ds_nil))
    (ds_one (ds_ret (de_cmp (do_eqA hr) (de_callB ca_len T.n_len PySem.boot_len (da_cons (de_lc rg nd (di_any (de_var 0)) (blkOk_by (own := [("sign", 1)]) (N := N_is_name) (sc := defScope s_is_name) (by decide +kernel)) (fun _ _ _ _ _ => pg_name (i := 1) nd rfl (Or.inl rfl)) gw_name (fun _ _ _ _ _ => dts_one (DW.dt (dw_and (dt_cmp (do_notmem hr) (de_var 1) (de_gc T.c_LETTERS)) (dw_and1 (dt_cmp (do_notmem hr) (de_var 1) (de_gc T.c_FIGURES)))))) (fun _ _ _ _ _ => de_var 1)) (da_nil))) (de_int))))) ok_is_name
theorem sc_names_fault : FnScope ["names", "at"] ["names"] (defScope s_names_fault) := ⟨rfl, rfl, rfl, by decide +kernel, rfl, by decide +kernel, by decide +kernel⟩
theorem fn_names_fault (T : Txt P K mg w) (C_is_name : Fd P w K mg base "is_name" 1 ["word"] sp_is_name) : Fd P w K mg base "names_fault" 2 ["names"] sp_names_fault :=
  Fd.of T.d_names_fault sc_names_fault (fun _ _ _ _ q => q.1) rd_names_fault (fun f cdv A outer s H EV B E rg hr => have nd := sc_names_fault.nd
    ds_cons (ds_if (dt_not (dt_chain do_le do_le (de_int) (de_callB ca_len T.n_len PySem.boot_len (da_cons (de_var 0) (da_nil))) (de_gc T.c_MOST_BOOK_NAMES))) (ds_one (ds_ret (de_tup (da_cons (de_str) (da_cons (de_callB ca_len T.n_len PySem.boot_len (da_cons (de_var 0) (da_nil))) (da_nil)))))) (ds_nil))
    (ds_cons (ds_for rg (di_range1 T.n_range (da_cons (de_callB ca_len T.n_len PySem.boot_len (da_cons (de_var 0) (da_nil))) (da_nil))) (dg_name (i := 1) nd) (ds_cons (ds_if (dt_not (dt_val (de_callF C_is_name hr rg (da_cons (de_it hr (de_var 0) (de_var 1)) (da_nil))))) (ds_one (ds_ret (de_tup (da_cons (de_str) (da_cons (de_it hr (de_var 0) (de_var 1)) (da_nil)))))) (ds_nil))
    (ds_one (ds_if (dt_cmp (do_mem hr) (de_it hr (de_var 0) (de_var 1)) (de_sl (de_var 0) (do_none) (do_some (de_var 1)))) (ds_one (ds_ret (de_tup (da_cons (de_str) (da_cons (de_it hr (de_var 0) (de_var 1)) (da_nil)))))) (ds_nil)))))
    (ds_one (ds_ret (de_non))))) ok_names_fault
theorem sc_head_fault : FnScope ["kind", "names"] ["kind", "names"] (defScope s_head_fault) := ⟨rfl, rfl, rfl, by decide +kernel, rfl, by decide +kernel, by decide +kernel⟩
theorem fn_head_fault (T : Txt P K mg w) (C_names_fault : Fd P w K mg base "names_fault" 2 ["names"] sp_names_fault) : Fd P w K mg base "head_fault" 3 ["kind", "names"] sp_head_fault :=
  Fd.of T.d_head_fault sc_head_fault (fun _ _ _ _ q => q.1) rd_head_fault (fun f cdv A outer s H EV B E rg hr => have nd := sc_head_fault.nd
    ds_cons (ds_if (dt_cmp (do_notmem hr) (de_var 0) (de_gc T.c_KINDS)) (ds_one (ds_ret (de_tup (da_cons (de_str) (da_cons (de_var 0) (da_nil)))))) (ds_nil))
    (ds_one (ds_ret (de_callF C_names_fault hr rg (da_cons (de_var 1) (da_nil)))))) ok_head_fault
theorem sc_number_pairs : FnScope ["count", "first", "second"] ["count"] (defScope s_number_pairs) := ⟨rfl, rfl, rfl, by decide +kernel, rfl, by decide +kernel, by decide +kernel⟩
theorem fn_number_pairs (T : Txt P K mg w) : Fd P w K mg base "number_pairs" 1 ["count"] sp_number_pairs :=
  Fd.of T.d_number_pairs sc_number_pairs (fun _ _ _ _ q => q.1) rd_number_pairs (fun f cdv A outer s H EV B E rg hr => have nd := sc_number_pairs.nd
    ds_one (ds_ret (id (by refine' de_lc2 (own := [("first", 1), ("second", 2)]) (vs1 := [2]) ?r ?n ?i ?o ?g ?w ?t ?i1 ?g1 ?w1 ?t1 ?e (by decide) (fun _ => rfl) (fun _ _ => rfl); (case r => exact rg); (case n => exact nd); (case i => exact di_range1 T.n_range (da_cons (de_var 0) (da_nil))); (case o => exact (blkOk_by (own := [("first", 1), ("second", 2)]) (N := N_number_pairs) (sc := defScope s_number_pairs) (by decide +kernel))); (case g => exact (fun _ _ _ _ _ => pg_name (i := 1) nd rfl (Or.inl rfl))); (case w => exact gw_name); (case t => exact (fun _ _ _ _ _ => dts_nil)); (case i1 => exact (fun _ _ _ _ _ => di_range2 T.n_range (da_cons (de_op do_add (de_var 1) (de_int)) (da_cons (de_var 0) (da_nil))))); (case g1 => exact (fun _ _ _ _ _ => pg_name (i := 2) (by exact nd) rfl (Or.inl rfl))); (case w1 => exact gw_name); (case t1 => exact (fun _ _ _ _ _ => dts_nil)); (case e => exact (fun _ _ _ _ _ => de_tup (da_cons (de_var 1) (da_cons (de_var 2) (da_nil))))))))) ok_number_pairs
theorem sc_ways : FnScope ["kind", "one", "other"] ["kind"] (defScope s_ways) := ⟨rfl, rfl, rfl, by decide +kernel, rfl, by decide +kernel, by decide +kernel⟩
theorem fn_ways (T : Txt P K mg w) : Fd P w K mg base "ways" 3 ["kind"] sp_ways :=
  Fd.of T.d_ways sc_ways (fun _ _ _ _ q => q.1) rd_ways (fun f cdv A outer s H EV B E rg hr => have nd := sc_ways.nd
    ds_cons (ds_if (dt_cmp (do_eqA hr) (de_var 0) (de_str)) (ds_one (ds_ret (de_callTy ca_tuple T.n_tuple PyProof.Rows.boot_tuple (da_cons (de_callTy (ca_list rg.calm) T.n_list PyProof.Rows.boot_list (da_cons (de_gc T.c_LINE) (da_nil))) (da_nil))))) (ds_nil))
    (ds_cons (ds_if (dt_cmp (do_eqA hr) (de_var 0) (de_str)) (ds_one (ds_ret (de_callTy ca_tuple T.n_tuple PyProof.Rows.boot_tuple (da_cons (de_callTy (ca_list rg.calm) T.n_list PyProof.Rows.boot_list (da_cons (de_gc T.c_RING) (da_nil))) (da_nil))))) (ds_nil))
    (ds_cons (ds_if (dt_cmp (do_eqA hr) (de_var 0) (de_str)) (ds_one (ds_ret (de_callTy ca_tuple T.n_tuple PyProof.Rows.boot_tuple (da_cons (id (by refine' de_lc2 (own := [("one", 1), ("other", 2)]) (vs1 := [2]) ?r ?n ?i ?o ?g ?w ?t ?i1 ?g1 ?w1 ?t1 ?e (by decide) (fun _ => rfl) (fun _ _ => rfl); (case r => exact rg); (case n => exact nd); (case i => exact di_any (de_gc T.c_LINE)); (case o => exact (blkOk_by (own := [("one", 1), ("other", 2)]) (N := N_ways) (sc := defScope s_ways) (by decide +kernel))); (case g => exact (fun _ _ _ _ _ => pg_name (i := 1) nd rfl (Or.inl rfl))); (case w => exact gw_name); (case t => exact (fun _ _ _ _ _ => dts_nil)); (case i1 => exact (fun _ _ _ _ _ => di_any (de_gc T.c_LINE))); (case g1 => exact (fun _ _ _ _ _ => pg_name (i := 2) (by exact nd) rfl (Or.inl rfl))); (case w1 => exact gw_name); (case t1 => exact (fun _ _ _ _ _ => dts_nil)); (case e => exact (fun _ _ _ _ _ => de_op do_add (de_var 1) (de_var 2))))) (da_nil))))) (ds_nil))
    (ds_one (ds_raiseD T.e_UnknownKind rg hr (by decide) (da_cons (de_var 0) (da_nil))))))) ok_ways
theorem sc_free_book : FnScope ["kind", "names", "fault", "pair"] ["kind", "names"] (defScope s_free_book) := ⟨rfl, rfl, rfl, by decide +kernel, rfl, by decide +kernel, by decide +kernel⟩
theorem fn_free_book (T : Txt P K mg w) (C_head_fault : Fd P w K mg base "head_fault" 3 ["kind", "names"] sp_head_fault) (C_number_pairs : Fd P w K mg base "number_pairs" 1 ["count"] sp_number_pairs) (C_ways : Fd P w K mg base "ways" 3 ["kind"] sp_ways) : Fd P w K mg base "free_book" 4 ["kind", "names"] sp_free_book :=
  Fd.of T.d_free_book sc_free_book (fun _ _ _ _ q => q.1) rd_free_book (fun f cdv A outer s H EV B E rg hr => have nd := sc_free_book.nd
    ds_cons (ds_set (i := 2) nd (de_callF C_head_fault hr rg (da_cons (de_var 0) (da_cons (de_var 1) (da_nil)))))
    (ds_cons (ds_if (dt_cmp do_isnotA (de_var 2) (de_non)) (ds_one (ds_raiseD T.e_BadFault rg hr (by decide) (da_cons (de_var 2) (da_nil)))) (ds_nil))
    (ds_one (ds_ret (de_tup (da_cons (de_var 0) (da_cons (de_callTy ca_tuple T.n_tuple PyProof.Rows.boot_tuple (da_cons (de_var 1) (da_nil))) (da_cons (de_callTy ca_tuple T.n_tuple PyProof.Rows.boot_tuple (da_cons (de_lc rg nd (di_any (de_callF C_number_pairs hr rg (da_cons (de_callB ca_len T.n_len PySem.boot_len (da_cons (de_var 1) (da_nil))) (da_nil)))) (blkOk_by (own := [("pair", 3)]) (N := N_free_book) (sc := defScope s_free_book) (by decide +kernel)) (fun _ _ _ _ _ => pg_name (i := 3) nd rfl (Or.inl rfl)) gw_name (fun _ _ _ _ _ => dts_nil) (fun _ _ _ _ _ => de_callF C_ways hr (Rg.none rg.calm PassesOwn.never) (da_cons (de_var 0) (da_nil)))) (da_nil))) (da_nil))))))))) ok_free_book
theorem sc_law_same : FnScope ["actual", "due", "at"] ["actual", "due"] (defScope s_law_same) := ⟨rfl, rfl, rfl, by decide +kernel, rfl, by decide +kernel, by decide +kernel⟩
theorem fn_law_same (T : Txt P K mg w) (n k : Nat) (hk : 0 ≤ k) {l0 : Nat} (h0 : l0 ≤ k) (C_law_same : Fd P w K mg base "_law_same" l0 ["actual", "due"] (sp_law_same n)) : Fd P w K mg base "_law_same" (k + 1) ["actual", "due"] (sp_law_same (n + 1)) :=
  Fd.of T.d_law_same sc_law_same (fun _ _ _ _ q => q.1) (rd_law_same n) (fun f cdv A outer s H EV B E rg hr => have nd := sc_law_same.nd
    ds_cons (ds_if (DW.dt (dw_or (dt_val (de_callB ca_isi T.n_isinstance PyProof.Rows.boot_isinstance (da_cons (de_var 1) (da_cons (de_type T.n_tuple PyProof.Rows.boot_tuple) (da_nil))))) (dw_or1 (dt_val (de_callB ca_isi T.n_isinstance PyProof.Rows.boot_isinstance (da_cons (de_var 1) (da_cons (de_type T.n_list PyProof.Rows.boot_list) (da_nil)))))))) (ds_cons (ds_if (DW.dt (dw_and (dt_val (de_callB ca_isi T.n_isinstance PyProof.Rows.boot_isinstance (da_cons (de_var 1) (da_cons (de_type T.n_tuple PyProof.Rows.boot_tuple) (da_nil))))) (dw_and1 (dt_not (dt_val (de_callB ca_isi T.n_isinstance PyProof.Rows.boot_isinstance (da_cons (de_var 0) (da_cons (de_type T.n_tuple PyProof.Rows.boot_tuple) (da_nil))))))))) (ds_one (ds_ret (de_bl))) (ds_nil))
    (ds_cons (ds_if (DW.dt (dw_and (dt_val (de_callB ca_isi T.n_isinstance PyProof.Rows.boot_isinstance (da_cons (de_var 1) (da_cons (de_type T.n_list PyProof.Rows.boot_list) (da_nil))))) (dw_and1 (dt_not (dt_val (de_callB ca_isi T.n_isinstance PyProof.Rows.boot_isinstance (da_cons (de_var 0) (da_cons (de_type T.n_list PyProof.Rows.boot_list) (da_nil))))))))) (ds_one (ds_ret (de_bl))) (ds_nil))
    (ds_cons (ds_if (dt_cmp (do_ne (u50 hr)) (de_callB ca_len T.n_len PySem.boot_len (da_cons (de_var 0) (da_nil))) (de_callB ca_len T.n_len PySem.boot_len (da_cons (de_var 1) (da_nil)))) (ds_one (ds_ret (de_bl))) (ds_nil))
    (ds_cons (ds_for rg (di_range1 T.n_range (da_cons (de_callB ca_len T.n_len PySem.boot_len (da_cons (de_var 1) (da_nil))) (da_nil))) (dg_name (i := 2) nd) (ds_one (ds_if (dt_not (dt_val (de_callF C_law_same hr rg (da_cons (de_it hr (de_var 0) (de_var 2)) (da_cons (de_it hr (de_var 1) (de_var 2)) (da_nil))) (by omega)))) (ds_one (ds_ret (de_bl))) (ds_nil))))
    (ds_one (ds_ret (de_bl))))))) (ds_nil))
    (ds_cons (ds_if (dt_cmp do_isA (de_var 1) (de_non)) (ds_one (ds_ret (de_cmp do_isA (de_var 0) (de_non)))) (ds_nil))
    (ds_cons (ds_if (dt_val (de_callB ca_isi T.n_isinstance PyProof.Rows.boot_isinstance (da_cons (de_var 1) (da_cons (de_type T.n_bool PyProof.Rows.boot_bool) (da_nil))))) (ds_one (ds_ret (de_and (de_callB ca_isi T.n_isinstance PyProof.Rows.boot_isinstance (da_cons (de_var 0) (da_cons (de_type T.n_bool PyProof.Rows.boot_bool) (da_nil)))) (de_one (de_cmp (do_eqA hr) (de_var 0) (de_var 1)))))) (ds_nil))
    (ds_cons (ds_if (dt_val (de_callB ca_isi T.n_isinstance PyProof.Rows.boot_isinstance (da_cons (de_var 1) (da_cons (de_type T.n_int PyProof.Rows.boot_int) (da_nil))))) (ds_one (ds_ret (de_and (de_callB ca_isi T.n_isinstance PyProof.Rows.boot_isinstance (da_cons (de_var 0) (da_cons (de_type T.n_int PyProof.Rows.boot_int) (da_nil)))) (de_and (de_not (de_callB ca_isi T.n_isinstance PyProof.Rows.boot_isinstance (da_cons (de_var 0) (da_cons (de_type T.n_bool PyProof.Rows.boot_bool) (da_nil))))) (de_one (de_cmp (do_eqA hr) (de_var 0) (de_var 1))))))) (ds_nil))
    (ds_one (ds_ret (de_and (de_callB ca_isi T.n_isinstance PyProof.Rows.boot_isinstance (da_cons (de_var 0) (da_cons (de_type T.n_str PyProof.Rows.boot_str) (da_nil)))) (de_one (de_cmp (do_eqA hr) (de_var 0) (de_var 1)))))))))) (ok_law_same n)
theorem sc_law_spoilt_names : FnScope ["pool", "names", "row", "at", "choice", "word", "signs"] ["pool", "names"] (defScope s_law_spoilt_names) := ⟨rfl, rfl, rfl, by decide +kernel, rfl, by decide +kernel, by decide +kernel⟩
theorem fn_law_spoilt_names (T : Txt P K mg w) (C_law_draw : Fd P w K mg base "_law_draw" 1 ["pool", "many"] sp_law_draw) (C_law_names : Fd P w K mg base "_law_names" 2 ["pool", "count"] sp_law_names) : Fd P w K mg base "_law_spoilt_names" 3 ["pool", "names"] sp_law_spoilt_names :=
  Fd.of T.d_law_spoilt_names sc_law_spoilt_names (fun _ _ _ _ q => q.1) rd_law_spoilt_names (fun f cdv A outer s H EV B E rg hr => have nd := sc_law_spoilt_names.nd
    ds_cons (ds_set (i := 2) nd (de_callTy (ca_list rg.calm) T.n_list PyProof.Rows.boot_list (da_cons (de_var 1) (da_nil))))
    (ds_cons (ds_set (i := 3) nd (de_callF C_law_draw hr rg (da_cons (de_var 0) (da_cons (de_callB ca_len T.n_len PySem.boot_len (da_cons (de_var 2) (da_nil))) (da_nil)))))
    (ds_cons (ds_set (i := 4) nd (de_callF C_law_draw hr rg (da_cons (de_var 0) (da_cons (de_int) (da_nil)))))
    (ds_cons (ds_if (dt_cmp (do_eqA hr) (de_var 4) (de_int)) (ds_one (ds_ret (de_lst (da_nil)))) (ds_nil))
    (ds_cons (ds_if (dt_cmp (do_eqA hr) (de_var 4) (de_int)) (ds_one (ds_ret (de_callTy (ca_list rg.calm) T.n_list PyProof.Rows.boot_list (da_cons (de_callF C_law_names hr rg (da_cons (de_var 0) (da_cons (de_int) (da_nil)))) (da_nil))))) (ds_nil))
    (ds_cons (ds_if (DW.dt (dw_and (dt_cmp (do_eqA hr) (de_var 4) (de_int)) (dw_and1 (dt_cmp do_gt (de_callB ca_len T.n_len PySem.boot_len (da_cons (de_var 2) (da_nil))) (de_int))))) (ds_cons (ds_asg (de_it hr (de_var 2) (de_op do_sub (de_var 3) (de_int))) (dg_sub (de_var 2) (de_var 3) (dset_all hr)))
    (ds_one (ds_ret (de_var 2)))) (ds_nil))
    (ds_cons (ds_set (i := 5) nd (de_it hr (de_var 2) (de_var 3)))
    (ds_cons (ds_set (i := 6) nd (de_lst (da_cons (de_str) (da_cons (de_str) (da_cons (de_str) (da_cons (de_str) (da_cons (de_bm0 PySem.F.plainAttrs_str PySem.F.slot_str_upper PySem.F.type_str_upper dm_upper (de_var 5)) (da_cons (de_op do_add (de_var 5) (de_str)) (da_cons (de_op do_add (de_var 5) (de_str)) (da_cons (de_op do_add (de_str) (de_var 5)) (da_cons (de_op do_add (de_sl (de_var 5) (do_none) (do_some (de_int))) (de_str)) (da_nil))))))))))))
    (ds_cons (ds_asg (de_it hr (de_var 6) (de_callF C_law_draw hr rg (da_cons (de_var 0) (da_cons (de_int) (da_nil))))) (dg_sub (de_var 2) (de_var 3) (dset_all hr)))
    (ds_one (ds_ret (de_var 2)))))))))))) ok_law_spoilt_names
theorem sc_law_spoilt_lot : FnScope ["pool", "kind", "lot", "every", "choice", "at"] ["pool", "kind", "lot"] (defScope s_law_spoilt_lot) := ⟨rfl, rfl, rfl, by decide +kernel, rfl, by decide +kernel, by decide +kernel⟩
theorem fn_law_spoilt_lot (T : Txt P K mg w) (C_law_ways : Fd P w K mg base "_law_ways" 1 ["kind"] sp_law_ways) (C_law_draw : Fd P w K mg base "_law_draw" 1 ["pool", "many"] sp_law_draw) : Fd P w K mg base "_law_spoilt_lot" 2 ["pool", "kind", "lot"] sp_law_spoilt_lot :=
  Fd.of T.d_law_spoilt_lot sc_law_spoilt_lot (fun _ _ _ _ q => q.1) rd_law_spoilt_lot (fun f cdv A outer s H EV B E rg hr => have nd := sc_law_spoilt_lot.nd
    ds_cons (ds_set (i := 3) nd (de_callF C_law_ways hr rg (da_cons (de_var 1) (da_nil))))
    (ds_cons (ds_set (i := 4) nd (de_callF C_law_draw hr rg (da_cons (de_var 0) (da_cons (de_int) (da_nil)))))
    (ds_cons (ds_set (i := 5) nd (de_callF C_law_draw hr rg (da_cons (de_var 0) (da_cons (de_op do_add (de_callB ca_len T.n_len PySem.boot_len (da_cons (de_var 2) (da_nil))) (de_int)) (da_nil)))))
    (ds_cons (ds_if (dt_cmp (do_eqA hr) (de_var 4) (de_int)) (ds_one (ds_ret (de_op do_add (de_op do_add (de_sl (de_var 2) (do_none) (do_some (de_var 5))) (de_tup (da_cons (de_it hr (de_lst (da_cons (de_str) (da_cons (de_str) (da_cons (de_str) (da_cons (de_str) (da_cons (de_str) (da_nil))))))) (de_callF C_law_draw hr rg (da_cons (de_var 0) (da_cons (de_int) (da_nil))))) (da_nil)))) (de_sl (de_var 2) (do_some (de_var 5)) (do_none))))) (ds_nil))
    (ds_cons (ds_if (dt_cmp (do_eqA hr) (de_var 4) (de_int)) (ds_one (ds_ret (de_op do_add (de_op do_add (de_tup (da_cons (de_it hr (de_var 3) (de_op do_sub (de_callB ca_len T.n_len PySem.boot_len (da_cons (de_var 3) (da_nil))) (de_int))) (da_nil))) (de_var 2)) (de_tup (da_cons (de_it hr (de_var 3) (de_callF C_law_draw hr rg (da_cons (de_var 0) (da_cons (de_callB ca_len T.n_len PySem.boot_len (da_cons (de_var 3) (da_nil))) (da_nil))))) (da_nil)))))) (ds_nil))
    (ds_cons (ds_if (dt_cmp (do_eqA hr) (de_var 4) (de_int)) (ds_one (ds_ret (de_op do_add (de_op do_add (de_var 2) (de_tup (da_cons (de_it hr (de_var 3) (de_int)) (da_nil)))) (de_var 2)))) (ds_nil))
    (ds_one (ds_ret (de_op do_add (de_op do_add (de_sl (de_var 2) (do_some (de_var 5)) (do_none)) (de_tup (da_cons (de_it hr (de_var 3) (de_callF C_law_draw hr rg (da_cons (de_var 0) (da_cons (de_callB ca_len T.n_len PySem.boot_len (da_cons (de_var 3) (da_nil))) (da_nil))))) (da_nil)))) (de_sl (de_var 2) (do_none) (do_some (de_var 5)))))))))))) ok_law_spoilt_lot
theorem sc_law_is_name : FnScope ["word", "sign"] ["word"] (defScope s_law_is_name) := ⟨rfl, rfl, rfl, by decide +kernel, rfl, by decide +kernel, by decide +kernel⟩
theorem fn_law_is_name (T : Txt P K mg w) : Fd P w K mg base "_law_is_name" 1 ["word"] sp_law_is_name :=
  Fd.of T.d_law_is_name sc_law_is_name (fun _ _ _ _ q => q.1) rd_law_is_name (fun f cdv A outer s H EV B E rg hr => have nd := sc_law_is_name.nd
    ds_cons (ds_if (DW.dt (dw_or (dt_cmp do_lt (de_callB ca_len T.n_len PySem.boot_len (da_cons (de_var 0) (da_nil))) (de_int)) (dw_or (dt_cmp do_gt (de_callB ca_len T.n_len PySem.boot_len (da_cons (de_var 0) (da_nil))) (de_int)) (dw_or1 (dt_cmp (do_mem hr) (de_it hr (de_var 0) (de_int)) (de_str)))))) (ds_one (ds_ret (de_bl))) (ds_nil))
    (ds_cons (ds_for rg (di_any (de_var 0)) (dg_name (i := 1) nd) (ds_one (ds_if (dt_cmp (do_notmem hr) (de_var 1) (de_str)) (ds_one (ds_ret (de_bl))) (ds_nil))))
    (ds_one (ds_ret (de_bl))))) ok_law_is_name
theorem sc_law_is_lot : FnScope ["kind", "value", "every", "last", "word"] ["kind", "value"] (defScope s_law_is_lot) := ⟨rfl, rfl, rfl, by decide +kernel, rfl, by decide +kernel, by decide +kernel⟩
theorem fn_law_is_lot (T : Txt P K mg w) (C_law_ways : Fd P w K mg base "_law_ways" 1 ["kind"] sp_law_ways) : Fd P w K mg base "_law_is_lot" 2 ["kind", "value"] sp_law_is_lot :=
  Fd.of T.d_law_is_lot sc_law_is_lot (fun _ _ _ _ q => q.1) rd_law_is_lot (fun f cdv A outer s H EV B E rg hr => have nd := sc_law_is_lot.nd
    ds_cons (ds_if (dt_not (dt_val (de_callB ca_isi T.n_isinstance PyProof.Rows.boot_isinstance (da_cons (de_var 1) (da_cons (de_type T.n_tuple PyProof.Rows.boot_tuple) (da_nil)))))) (ds_one (ds_ret (de_bl))) (ds_nil))
    (ds_cons (ds_set (i := 2) nd (de_callF C_law_ways hr rg (da_cons (de_var 0) (da_nil))))
    (ds_cons (ds_set (i := 3) nd (de_neg (de_int)))
    (ds_cons (ds_for rg (di_any (de_var 1)) (dg_name (i := 4) nd) (ds_cons (ds_if (DW.dt (dw_or (dt_not (dt_val (de_callB ca_isi T.n_isinstance PyProof.Rows.boot_isinstance (da_cons (de_var 4) (da_cons (de_type T.n_str PyProof.Rows.boot_str) (da_nil)))))) (dw_or (dt_cmp (do_notmem hr) (de_var 4) (de_var 2)) (dw_or1 (dt_cmp do_le (de_bm PySem.F.plainAttrs_list PySem.F.slot_list_index PySem.F.type_list_index dm_index (de_var 2) (da_cons (de_var 4) (da_nil))) (de_var 3)))))) (ds_one (ds_ret (de_bl))) (ds_nil))
    (ds_one (ds_set (i := 3) nd (de_bm PySem.F.plainAttrs_list PySem.F.slot_list_index PySem.F.type_list_index dm_index (de_var 2) (da_cons (de_var 4) (da_nil)))))))
    (ds_one (ds_ret (de_bl))))))) ok_law_is_lot
theorem sc_law_fault : FnScope ["kind", "names", "lots", "name", "at"] ["kind", "names", "lots"] (defScope s_law_fault) := ⟨rfl, rfl, rfl, by decide +kernel, rfl, by decide +kernel, by decide +kernel⟩
theorem fn_law_fault (T : Txt P K mg w) (C_law_is_name : Fd P w K mg base "_law_is_name" 1 ["word"] sp_law_is_name) (C_law_is_lot : Fd P w K mg base "_law_is_lot" 2 ["kind", "value"] sp_law_is_lot) : Fd P w K mg base "_law_fault" 3 ["kind", "names", "lots"] sp_law_fault :=
  Fd.of T.d_law_fault sc_law_fault (fun _ _ _ _ q => q.1) rd_law_fault (fun f cdv A outer s H EV B E rg hr => have nd := sc_law_fault.nd
    ds_cons (ds_if (dt_cmp (do_notmem hr) (de_var 0) (de_lst (da_cons (de_str) (da_cons (de_str) (da_cons (de_str) (da_nil)))))) (ds_one (ds_ret (de_tup (da_cons (de_str) (da_cons (de_var 0) (da_nil)))))) (ds_nil))
    (ds_cons (ds_if (DW.dt (dw_or (dt_cmp do_lt (de_callB ca_len T.n_len PySem.boot_len (da_cons (de_var 1) (da_nil))) (de_int)) (dw_or1 (dt_cmp do_gt (de_callB ca_len T.n_len PySem.boot_len (da_cons (de_var 1) (da_nil))) (de_int))))) (ds_one (ds_ret (de_tup (da_cons (de_str) (da_cons (de_callB ca_len T.n_len PySem.boot_len (da_cons (de_var 1) (da_nil))) (da_nil)))))) (ds_nil))
    (ds_cons (ds_for rg (di_any (de_var 1)) (dg_name (i := 3) nd) (ds_one (ds_if (dt_not (dt_val (de_callF C_law_is_name hr rg (da_cons (de_var 3) (da_nil))))) (ds_one (ds_ret (de_tup (da_cons (de_str) (da_cons (de_var 3) (da_nil)))))) (ds_nil))))
    (ds_cons (ds_for rg (di_range1 T.n_range (da_cons (de_callB ca_len T.n_len PySem.boot_len (da_cons (de_var 1) (da_nil))) (da_nil))) (dg_name (i := 4) nd) (ds_one (ds_if (dt_cmp (do_mem hr) (de_it hr (de_var 1) (de_var 4)) (de_sl (de_var 1) (do_none) (do_some (de_var 4)))) (ds_one (ds_ret (de_tup (da_cons (de_str) (da_cons (de_it hr (de_var 1) (de_var 4)) (da_nil)))))) (ds_nil))))
    (ds_cons (ds_if (dt_cmp (do_ne (u50 hr)) (de_callB ca_len T.n_len PySem.boot_len (da_cons (de_var 2) (da_nil))) (de_op do_fdv (de_op do_mul (de_callB ca_len T.n_len PySem.boot_len (da_cons (de_var 1) (da_nil))) (de_op do_sub (de_callB ca_len T.n_len PySem.boot_len (da_cons (de_var 1) (da_nil))) (de_int))) (de_int))) (ds_one (ds_ret (de_tup (da_cons (de_str) (da_cons (de_callB ca_len T.n_len PySem.boot_len (da_cons (de_var 2) (da_nil))) (da_nil)))))) (ds_nil))
    (ds_cons (ds_for rg (di_range1 T.n_range (da_cons (de_callB ca_len T.n_len PySem.boot_len (da_cons (de_var 2) (da_nil))) (da_nil))) (dg_name (i := 4) nd) (ds_one (ds_if (dt_not (dt_val (de_callF C_law_is_lot hr rg (da_cons (de_var 0) (da_cons (de_it hr (de_var 2) (de_var 4)) (da_nil)))))) (ds_one (ds_ret (de_tup (da_cons (de_str) (da_cons (de_var 4) (da_nil)))))) (ds_nil))))
    (ds_one (ds_ret (de_non))))))))) ok_law_fault
theorem sc_is_way : FnScope ["kind", "word"] ["kind", "word"] (defScope s_is_way) := ⟨rfl, rfl, rfl, by decide +kernel, rfl, by decide +kernel, by decide +kernel⟩
theorem fn_is_way (T : Txt P K mg w) : Fd P w K mg base "is_way" 1 ["kind", "word"] sp_is_way :=
  Fd.of T.d_is_way sc_is_way (fun _ _ _ _ q => q.1) rd_is_way (fun f cdv A outer s H EV B E rg hr => have nd := sc_is_way.nd
    ds_cons (ds_if (dt_cmp (do_eqA hr) (de_var 0) (de_str)) (ds_one (ds_ret (de_and (de_cmp (do_eqA hr) (de_callB ca_len T.n_len PySem.boot_len (da_cons (de_var 1) (da_nil))) (de_int)) (de_one (de_cmp (do_mem hr) (de_var 1) (de_gc T.c_LINE)))))) (ds_nil))
    (ds_cons (ds_if (dt_cmp (do_eqA hr) (de_var 0) (de_str)) (ds_one (ds_ret (de_cmp (do_mem hr) (de_var 1) (de_gc T.c_RING)))) (ds_nil))
    (ds_one (ds_ret (de_and (de_cmp (do_eqA hr) (de_callB ca_len T.n_len PySem.boot_len (da_cons (de_var 1) (da_nil))) (de_int)) (de_and (de_cmp (do_mem hr) (de_it hr (de_var 1) (de_int)) (de_gc T.c_LINE)) (de_one (de_cmp (do_mem hr) (de_it hr (de_var 1) (de_int)) (de_gc T.c_LINE))))))))) ok_is_way
theorem sc_has_doubles : FnScope ["values", "value"] ["values"] (defScope s_has_doubles) := ⟨rfl, rfl, rfl, by decide +kernel, rfl, by decide +kernel, by decide +kernel⟩
theorem fn_has_doubles (T : Txt P K mg w) : Fd P w K mg base "has_doubles" 1 ["values"] sp_has_doubles :=
  Fd.of T.d_has_doubles sc_has_doubles (fun _ _ _ _ q => q.1) rd_has_doubles (fun f cdv A outer s H EV B E rg hr => have nd := sc_has_doubles.nd
    ds_one (ds_ret (de_cmp do_lt (de_callB ca_len T.n_len PySem.boot_len (da_cons (de_dc rg nd (di_any (de_var 0)) (blkOk_by (own := [("value", 1)]) (N := N_has_doubles) (sc := defScope s_has_doubles) (by decide +kernel)) (fun _ _ _ _ _ => pg_name (i := 1) nd rfl (Or.inl rfl)) gw_name (fun _ _ _ _ _ => dts_nil) (fun _ _ _ _ _ => de_var 1) (fun _ _ _ _ _ => de_bl)) (da_nil))) (de_callB ca_len T.n_len PySem.boot_len (da_cons (de_var 0) (da_nil)))))) ok_has_doubles
theorem sc_place_of : FnScope ["kind", "way"] ["kind", "way"] (defScope s_place_of) := ⟨rfl, rfl, rfl, by decide +kernel, rfl, by decide +kernel, by decide +kernel⟩
theorem fn_place_of (T : Txt P K mg w) : Fd P w K mg base "place_of" 1 ["kind", "way"] sp_place_of :=
  Fd.of T.d_place_of sc_place_of (fun _ _ _ _ q => q.1) rd_place_of (fun f cdv A outer s H EV B E rg hr => have nd := sc_place_of.nd
    ds_cons (ds_if (dt_cmp (do_eqA hr) (de_var 0) (de_str)) (ds_one (ds_ret (de_bm PySem.F.plainAttrs_str PySem.F.slot_str_index PySem.F.type_str_index dm_sindex (de_gc T.c_LINE) (da_cons (de_var 1) (da_nil))))) (ds_nil))
    (ds_cons (ds_if (dt_cmp (do_eqA hr) (de_var 0) (de_str)) (ds_one (ds_ret (de_kix T.i_RING (da_cons (de_var 1) (da_nil))))) (ds_nil))
    (ds_one (ds_ret (de_op do_add (de_op do_mul (de_bm PySem.F.plainAttrs_str PySem.F.slot_str_index PySem.F.type_str_index dm_sindex (de_gc T.c_LINE) (da_cons (de_it hr (de_var 1) (de_int)) (da_nil))) (de_callB ca_len T.n_len PySem.boot_len (da_cons (de_gc T.c_LINE) (da_nil)))) (de_bm PySem.F.plainAttrs_str PySem.F.slot_str_index PySem.F.type_str_index dm_sindex (de_gc T.c_LINE) (da_cons (de_it hr (de_var 1) (de_int)) (da_nil)))))))) ok_place_of
theorem sc_ordered : FnScope ["kind", "words", "found", "word", "place"] ["kind", "words"] (defScope s_ordered) := ⟨rfl, rfl, rfl, by decide +kernel, rfl, by decide +kernel, by decide +kernel⟩
theorem fn_ordered (T : Txt P K mg w) (C_place_of : Fd P w K mg base "place_of" 1 ["kind", "way"] sp_place_of) : Fd P w K mg base "ordered" 2 ["kind", "words"] sp_ordered :=
  Fd.of T.d_ordered sc_ordered (fun _ _ _ _ q => q.1) rd_ordered (fun f cdv A outer s H EV B E rg hr => have nd := sc_ordered.nd
    ds_cons (ds_set (i := 2) nd (de_dnew))
    (ds_cons (ds_forA rg (de_var 1) (dg_name (i := 3) nd) (ds_one (ds_asg (de_var 3) (dg_sub (de_var 2) (de_callF C_place_of hr rg (da_cons (de_var 0) (da_cons (de_var 3) (da_nil)))) (dset_all hr)))))
    (ds_one (ds_ret (de_callTy ca_tuple T.n_tuple PyProof.Rows.boot_tuple (da_cons (de_lc rg nd (di_any (de_callB (ca_sortedA (by exact rg.calm)) T.n_sorted PyProof.Rows.boot_sorted (da_cons (de_var 2) (da_nil)))) (blkOk_by (own := [("place", 4)]) (N := N_ordered) (sc := defScope s_ordered) (by decide +kernel)) (fun _ _ _ _ _ => pg_name (i := 4) nd rfl (Or.inl rfl)) gw_name (fun _ _ _ _ _ => dts_nil) (fun _ _ _ _ _ => de_it hr (de_var 2) (de_var 4))) (da_nil))))))) ok_ordered
theorem sc_is_lot : FnScope ["kind", "value", "word"] ["kind", "value"] (defScope s_is_lot) := ⟨rfl, rfl, rfl, by decide +kernel, rfl, by decide +kernel, by decide +kernel⟩
theorem fn_is_lot (T : Txt P K mg w) (C_is_way : Fd P w K mg base "is_way" 1 ["kind", "word"] sp_is_way) (C_has_doubles : Fd P w K mg base "has_doubles" 1 ["values"] sp_has_doubles) (C_ordered : Fd P w K mg base "ordered" 2 ["kind", "words"] sp_ordered) : Fd P w K mg base "is_lot" 3 ["kind", "value"] sp_is_lot :=
  Fd.of T.d_is_lot sc_is_lot (fun _ _ _ _ q => q.1) rd_is_lot (fun f cdv A outer s H EV B E rg hr => have nd := sc_is_lot.nd
    ds_cons (ds_if (DW.dt (dw_or (dt_not (dt_val (de_callB ca_isi T.n_isinstance PyProof.Rows.boot_isinstance (da_cons (de_var 1) (da_cons (de_type T.n_tuple PyProof.Rows.boot_tuple) (da_nil)))))) (dw_or1 (dt_cmp do_gt (de_callB ca_len T.n_len PySem.boot_len (da_cons (de_lc rg nd (di_any (de_var 1)) (blkOk_by (own := [("word", 2)]) (N := N_is_lot) (sc := defScope s_is_lot) (by decide +kernel)) (fun _ _ _ _ _ => pg_name (i := 2) nd rfl (Or.inl rfl)) gw_name (fun _ _ _ _ _ => dts_one (dt_not (dt_val (de_callB ca_isi T.n_isinstance PyProof.Rows.boot_isinstance (da_cons (de_var 2) (da_cons (de_type T.n_str PyProof.Rows.boot_str) (da_nil))))))) (fun _ _ _ _ _ => de_var 2)) (da_nil))) (de_int))))) (ds_one (ds_ret (de_bl))) (ds_nil))
    (ds_cons (ds_if (DW.dt (dw_or (dt_cmp do_gt (de_callB ca_len T.n_len PySem.boot_len (da_cons (de_lc rg nd (di_any (de_var 1)) (blkOk_by (own := [("word", 2)]) (N := N_is_lot) (sc := defScope s_is_lot) (by decide +kernel)) (fun _ _ _ _ _ => pg_name (i := 2) nd rfl (Or.inl rfl)) gw_name (fun _ _ _ _ _ => dts_one (dt_not (dt_val (de_callF C_is_way hr (Rg.none rg.calm PassesOwn.never) (da_cons (de_var 0) (da_cons (de_var 2) (da_nil))))))) (fun _ _ _ _ _ => de_var 2)) (da_nil))) (de_int)) (dw_or1 (dt_val (de_callF C_has_doubles hr rg (da_cons (de_var 1) (da_nil))))))) (ds_one (ds_ret (de_bl))) (ds_nil))
    (ds_one (ds_ret (de_cmp (do_eqA hr) (de_var 1) (de_callF C_ordered hr rg (da_cons (de_var 0) (da_cons (de_var 1) (da_nil))))))))) ok_is_lot
theorem sc_book_fault : FnScope ["kind", "names", "lots", "fault", "at"] ["kind", "names", "lots"] (defScope s_book_fault) := ⟨rfl, rfl, rfl, by decide +kernel, rfl, by decide +kernel, by decide +kernel⟩
theorem fn_book_fault (T : Txt P K mg w) (C_head_fault : Fd P w K mg base "head_fault" 3 ["kind", "names"] sp_head_fault) (C_number_pairs : Fd P w K mg base "number_pairs" 1 ["count"] sp_number_pairs) (C_is_lot : Fd P w K mg base "is_lot" 3 ["kind", "value"] sp_is_lot) : Fd P w K mg base "book_fault" 4 ["kind", "names", "lots"] sp_book_fault :=
  Fd.of T.d_book_fault sc_book_fault (fun _ _ _ _ q => q.1) rd_book_fault (fun f cdv A outer s H EV B E rg hr => have nd := sc_book_fault.nd
    ds_cons (ds_set (i := 3) nd (de_callF C_head_fault hr rg (da_cons (de_var 0) (da_cons (de_var 1) (da_nil)))))
    (ds_cons (ds_if (dt_cmp do_isnotA (de_var 3) (de_non)) (ds_one (ds_ret (de_var 3))) (ds_nil))
    (ds_cons (ds_if (dt_cmp (do_ne (u50 hr)) (de_callB ca_len T.n_len PySem.boot_len (da_cons (de_var 2) (da_nil))) (de_callB ca_len T.n_len PySem.boot_len (da_cons (de_callF C_number_pairs hr rg (da_cons (de_callB ca_len T.n_len PySem.boot_len (da_cons (de_var 1) (da_nil))) (da_nil))) (da_nil)))) (ds_one (ds_ret (de_tup (da_cons (de_str) (da_cons (de_callB ca_len T.n_len PySem.boot_len (da_cons (de_var 2) (da_nil))) (da_nil)))))) (ds_nil))
    (ds_cons (ds_for rg (di_range1 T.n_range (da_cons (de_callB ca_len T.n_len PySem.boot_len (da_cons (de_var 2) (da_nil))) (da_nil))) (dg_name (i := 4) nd) (ds_one (ds_if (dt_not (dt_val (de_callF C_is_lot hr rg (da_cons (de_var 0) (da_cons (de_it hr (de_var 2) (de_var 4)) (da_nil)))))) (ds_one (ds_ret (de_tup (da_cons (de_str) (da_cons (de_var 4) (da_nil)))))) (ds_nil))))
    (ds_one (ds_ret (de_non))))))) ok_book_fault
theorem sc_make_book : FnScope ["kind", "names", "lots", "fault"] ["kind", "names", "lots"] (defScope s_make_book) := ⟨rfl, rfl, rfl, by decide +kernel, rfl, by decide +kernel, by decide +kernel⟩
theorem fn_make_book (T : Txt P K mg w) (C_book_fault : Fd P w K mg base "book_fault" 4 ["kind", "names", "lots"] sp_book_fault) : Fd P w K mg base "make_book" 5 ["kind", "names", "lots"] sp_make_book :=
  Fd.of T.d_make_book sc_make_book (fun _ _ _ _ q => q.1) rd_make_book (fun f cdv A outer s H EV B E rg hr => have nd := sc_make_book.nd
    ds_cons (ds_set (i := 3) nd (de_callF C_book_fault hr rg (da_cons (de_var 0) (da_cons (de_var 1) (da_cons (de_var 2) (da_nil))))))
    (ds_cons (ds_if (dt_cmp do_isnotA (de_var 3) (de_non)) (ds_one (ds_raiseD T.e_BadFault rg hr (by decide) (da_cons (de_var 3) (da_nil)))) (ds_nil))
    (ds_one (ds_ret (de_tup (da_cons (de_var 0) (da_cons (de_callTy ca_tuple T.n_tuple PyProof.Rows.boot_tuple (da_cons (de_var 1) (da_nil))) (da_cons (de_callTy ca_tuple T.n_tuple PyProof.Rows.boot_tuple (da_cons (de_var 2) (da_nil))) (da_nil))))))))) ok_make_book
theorem sc_law_made : FnScope ["kind", "names", "lots", "e", "odd"] ["kind", "names", "lots"] (defScope s_law_made) := ⟨rfl, rfl, rfl, by decide +kernel, rfl, by decide +kernel, by decide +kernel⟩
theorem fn_law_made (T : Txt P K mg w) (C_make_book : Fd P w K mg base "make_book" 5 ["kind", "names", "lots"] sp_make_book) : Fd P w K mg base "_law_made" 6 ["kind", "names", "lots"] sp_law_made :=
  Fd.of T.d_law_made sc_law_made (fun _ _ _ _ q => q.1) rd_law_made (fun f cdv A outer s H EV B E rg hr => have nd := sc_law_made.nd
    ds_one (ds_try rg nd (fun pl xe Bt Et rg => ds_one (ds_ret (de_tup (da_cons (de_str) (da_cons (de_callF C_make_book hr rg (da_cons (de_var 0) (da_cons (de_var 1) (da_cons (de_var 2) (da_nil))))) (da_nil)))))) (.named (er_known T.er (by decide)) (fun ea eo k dd pl hz hf x B rh rx => ds_cons (ds_set (i := 4) nd (de_isEs T.er hz hf rh rx T.n_isinstance (by decide) (pe_var (i := 3) rfl (Or.inl rfl) (by decide) (by decide)) (.cons (.cons (.cons (.cons .nil)))) (fun e he r => by simp only [List.mem_cons, List.not_mem_nil, or_false] at he; rcases he with rfl | rfl | rfl | rfl <;> rfl)))
    (ds_one (ds_ret (de_tup (da_cons (de_str) (da_cons (de_xf T.er hz hf rh rx (de_var 3)) (da_cons (de_and (de_isE T.er hz hf rh rx T.n_isinstance (by decide) (pe_var (i := 3) rfl (Or.inl rfl) (by decide) (by decide))) (de_and (de_isE T.er hz hf rh rx T.n_isinstance (by decide) (pe_var (i := 3) rfl (Or.inl rfl) (by decide) (by decide))) (de_one (de_not (de_var 4))))) (da_nil)))))))) (.plain (er_known T.er (by decide)) (fun ea eo k dd pl hz hf x B rh rx => ds_one (ds_ret (de_tup (da_cons (de_str) (da_nil))))) (.nil))))) ok_law_made
theorem sc_law : FnScope ["script", "pool", "kind", "names", "lots", "free", "spoilt", "asked", "fault", "due", "one", "other", "turn", "at", "lot"] ["script"] (defScope s_law) := ⟨rfl, rfl, rfl, by decide +kernel, rfl, by decide +kernel, by decide +kernel⟩
theorem fn_law {f : Addr} {fd : FuncData} (T : Txt P K mg w) (F : Fun K "law" "law" s_law f fd) (C_law_pool : Fd P w K mg base "_law_pool" 1 ["script"] sp_law_pool) (C_law_draw : Fd P w K mg base "_law_draw" 1 ["pool", "many"] sp_law_draw) (C_law_names : Fd P w K mg base "_law_names" 2 ["pool", "count"] sp_law_names) (C_law_drawn_lots : Fd P w K mg base "_law_drawn_lots" 4 ["pool", "kind", "count"] sp_law_drawn_lots) (C_law_ways : Fd P w K mg base "_law_ways" 1 ["kind"] sp_law_ways) (C_free_book : Fd P w K mg base "free_book" 4 ["kind", "names"] sp_free_book) (C_law_same : Fd P w K mg base "_law_same" 5 ["actual", "due"] (sp_law_same 5)) (C_law_spoilt_names : Fd P w K mg base "_law_spoilt_names" 3 ["pool", "names"] sp_law_spoilt_names) (C_law_spoilt_lot : Fd P w K mg base "_law_spoilt_lot" 2 ["pool", "kind", "lot"] sp_law_spoilt_lot) (C_law_fault : Fd P w K mg base "_law_fault" 3 ["kind", "names", "lots"] sp_law_fault) (C_book_fault : Fd P w K mg base "book_fault" 4 ["kind", "names", "lots"] sp_book_fault) (C_law_made : Fd P w K mg base "_law_made" 6 ["kind", "names", "lots"] sp_law_made) : FnD P w K mg base 7 f fd ["script"] lawSp :=
  fn_d F sc_law (fun _ _ _ _ q => law_len q) rd_law (fun cdv A outer s H EV B E rg hr => have nd := sc_law.nd
    ds_cons (ds_set (i := 1) nd (de_callF C_law_pool hr rg (da_cons (de_var 0) (da_nil))))
    (ds_cons (ds_set (i := 2) nd (de_it hr (de_lst (da_cons (de_str) (da_cons (de_str) (da_cons (de_str) (da_nil))))) (de_callF C_law_draw hr rg (da_cons (de_var 1) (da_cons (de_int) (da_nil))))))
    (ds_cons (ds_set (i := 3) nd (de_callTy (ca_list rg.calm) T.n_list PyProof.Rows.boot_list (da_cons (de_callF C_law_names hr rg (da_cons (de_var 1) (da_cons (de_op do_add (de_int) (de_callF C_law_draw hr rg (da_cons (de_var 1) (da_cons (de_if (dt_cmp (do_eqA hr) (de_var 2) (de_str)) (de_int) (de_int)) (da_nil))))) (da_nil)))) (da_nil))))
    (ds_cons (ds_set (i := 4) nd (de_callF C_law_drawn_lots hr rg (da_cons (de_var 1) (da_cons (de_var 2) (da_cons (de_callB ca_len T.n_len PySem.boot_len (da_cons (de_var 3) (da_nil))) (da_nil))))))
    (ds_cons (ds_set (i := 5) nd (de_tup (da_cons (de_var 2) (da_cons (de_callTy ca_tuple T.n_tuple PyProof.Rows.boot_tuple (da_cons (de_var 3) (da_nil))) (da_cons (de_callTy ca_tuple T.n_tuple PyProof.Rows.boot_tuple (da_cons (de_lc rg nd (di_any (de_var 4)) (blkOk_by (own := [("lot", 14)]) (N := N_law) (sc := defScope s_law) (by decide +kernel)) (fun _ _ _ _ _ => pg_name (i := 14) nd rfl (Or.inl rfl)) gw_name (fun _ _ _ _ _ => dts_nil) (fun _ _ _ _ _ => de_callTy ca_tuple T.n_tuple PyProof.Rows.boot_tuple (da_cons (de_callF C_law_ways hr (Rg.none rg.calm PassesOwn.never) (da_cons (de_var 2) (da_nil))) (da_nil)))) (da_nil))) (da_nil))))))
    (ds_cons (ds_if (dt_not (dt_val (de_callF C_law_same hr rg (da_cons (de_callF C_free_book hr rg (da_cons (de_var 2) (da_cons (de_callTy ca_tuple T.n_tuple PyProof.Rows.boot_tuple (da_cons (de_var 3) (da_nil))) (da_nil)))) (da_cons (de_var 5) (da_nil)))))) (ds_one (ds_ret (de_bl))) (ds_nil))
    (ds_cons (ds_set (i := 6) nd (de_callF C_law_draw hr rg (da_cons (de_var 1) (da_cons (de_int) (da_nil)))))
    (ds_cons (ds_if (dt_cmp (do_mem hr) (de_var 6) (de_lst (da_cons (de_int) (da_cons (de_int) (da_cons (de_int) (da_cons (de_int) (da_cons (de_int) (da_nil)))))))) (ds_one (ds_set (i := 3) nd (de_callF C_law_spoilt_names hr rg (da_cons (de_var 1) (da_cons (de_var 3) (da_nil)))))) (ds_nil))
    (ds_cons (ds_if (DW.dt (dw_and (dt_cmp (do_mem hr) (de_var 6) (de_lst (da_cons (de_int) (da_cons (de_int) (da_cons (de_int) (da_cons (de_int) (da_nil))))))) (dw_and1 (dt_cmp do_gt (de_callB ca_len T.n_len PySem.boot_len (da_cons (de_var 4) (da_nil))) (de_int))))) (ds_one (ds_set (i := 4) nd (de_if (dt_cmp (do_eqA hr) (de_callF C_law_draw hr rg (da_cons (de_var 1) (da_cons (de_int) (da_nil)))) (de_int)) (de_sl (de_var 4) (do_some (de_int)) (do_none)) (de_op do_add (de_var 4) (de_lst (da_cons (de_it hr (de_var 4) (de_int)) (da_nil))))))) (ds_nil))
    (ds_cons (ds_if (DW.dt (dw_and (dt_cmp (do_mem hr) (de_var 6) (de_lst (da_cons (de_int) (da_cons (de_int) (da_cons (de_int) (da_cons (de_int) (da_cons (de_int) (da_cons (de_int) (da_cons (de_int) (da_nil)))))))))) (dw_and1 (dt_cmp do_gt (de_callB ca_len T.n_len PySem.boot_len (da_cons (de_var 4) (da_nil))) (de_int))))) (ds_one (ds_for rg (di_range1 T.n_range (da_cons (de_op do_add (de_int) (de_callF C_law_draw hr rg (da_cons (de_var 1) (da_cons (de_int) (da_nil))))) (da_nil))) (dg_name (i := 12) nd) (ds_cons (ds_set (i := 13) nd (de_callF C_law_draw hr rg (da_cons (de_var 1) (da_cons (de_callB ca_len T.n_len PySem.boot_len (da_cons (de_var 4) (da_nil))) (da_nil)))))
    (ds_one (ds_asg (de_callF C_law_spoilt_lot hr rg (da_cons (de_var 1) (da_cons (de_var 2) (da_cons (de_it hr (de_var 4) (de_var 13)) (da_nil))))) (dg_sub (de_var 4) (de_var 13) (dset_all hr))))))) (ds_nil))
    (ds_cons (ds_set (i := 7) nd (de_var 2))
    (ds_cons (ds_if (dt_cmp (do_mem hr) (de_var 6) (de_lst (da_cons (de_int) (da_cons (de_int) (da_cons (de_int) (da_cons (de_int) (da_nil))))))) (ds_one (ds_set (i := 7) nd (de_it hr (de_lst (da_cons (de_str) (da_cons (de_str) (da_cons (de_str) (da_cons (de_str) (da_cons (de_str) (da_cons (de_str) (da_cons (de_str) (da_cons (de_str) (da_nil)))))))))) (de_callF C_law_draw hr rg (da_cons (de_var 1) (da_cons (de_int) (da_nil))))))) (ds_nil))
    (ds_cons (ds_set (i := 8) nd (de_callF C_law_fault hr rg (da_cons (de_var 7) (da_cons (de_var 3) (da_cons (de_var 4) (da_nil))))))
    (ds_cons (ds_if (dt_not (dt_val (de_callF C_law_same hr rg (da_cons (de_callF C_book_fault hr rg (da_cons (de_var 7) (da_cons (de_callTy ca_tuple T.n_tuple PyProof.Rows.boot_tuple (da_cons (de_var 3) (da_nil))) (da_cons (de_callTy ca_tuple T.n_tuple PyProof.Rows.boot_tuple (da_cons (de_var 4) (da_nil))) (da_nil))))) (da_cons (de_var 8) (da_nil)))))) (ds_one (ds_ret (de_bl))) (ds_nil))
    (ds_cons (ds_set (i := 9) nd (de_tup (da_cons (de_str) (da_cons (de_tup (da_cons (de_var 7) (da_cons (de_callTy ca_tuple T.n_tuple PyProof.Rows.boot_tuple (da_cons (de_var 3) (da_nil))) (da_cons (de_callTy ca_tuple T.n_tuple PyProof.Rows.boot_tuple (da_cons (de_var 4) (da_nil))) (da_nil))))) (da_nil)))))
    (ds_cons (ds_if (dt_cmp do_isnotA (de_var 8) (de_non)) (ds_one (ds_set (i := 9) nd (de_tup (da_cons (de_str) (da_cons (de_var 8) (da_cons (de_bl) (da_nil))))))) (ds_nil))
    (ds_cons (ds_set (i := 10) nd (de_callTy (ca_list rg.calm) T.n_list PyProof.Rows.boot_list (da_cons (de_var 3) (da_nil))))
    (ds_cons (ds_set (i := 11) nd (de_callTy (ca_list rg.calm) T.n_list PyProof.Rows.boot_list (da_cons (de_var 4) (da_nil))))
    (ds_cons (ds_if (DW.dt (dw_or (dt_not (dt_val (de_callF C_law_same hr rg (da_cons (de_callF C_law_made hr rg (da_cons (de_var 7) (da_cons (de_var 10) (da_cons (de_var 11) (da_nil))))) (da_cons (de_var 9) (da_nil)))))) (dw_or1 (dt_not (dt_val (de_callF C_law_same hr rg (da_cons (de_lst (da_cons (de_var 10) (da_cons (de_var 11) (da_nil)))) (da_cons (de_lst (da_cons (de_var 3) (da_cons (de_var 4) (da_nil)))) (da_nil))))))))) (ds_one (ds_ret (de_bl))) (ds_nil))
    (ds_one (ds_ret (de_callF C_law_same hr rg (da_cons (de_callF C_law_made hr rg (da_cons (de_var 7) (da_cons (de_callTy ca_tuple T.n_tuple PyProof.Rows.boot_tuple (da_cons (de_var 3) (da_nil))) (da_cons (de_callTy ca_tuple T.n_tuple PyProof.Rows.boot_tuple (da_cons (de_var 4) (da_nil))) (da_nil))))) (da_cons (de_var 9) (da_nil))))))))))))))))))))))))) ok_law
theorem all_fn {f : Addr} {fd : FuncData} (T : Txt P K mg w) (F : Fun K "law" "law" s_law f fd) : FnD P w K mg base 7 f fd ["script"] lawSp :=
  have C_law_pool := fn_law_pool (P := P) (base := base) T
  have C_law_draw := fn_law_draw (P := P) (base := base) T
  have C_law_names := fn_law_names (P := P) (base := base) T C_law_draw
  have C_law_ways := fn_law_ways (P := P) (base := base) T
  have C_law_lot := fn_law_lot (P := P) (base := base) T C_law_ways
  have C_law_drawn_lot := fn_law_drawn_lot (P := P) (base := base) T C_law_ways C_law_draw C_law_lot
  have C_law_drawn_lots := fn_law_drawn_lots (P := P) (base := base) T C_law_drawn_lot
  have C_is_name := fn_is_name (P := P) (base := base) T
  have C_names_fault := fn_names_fault (P := P) (base := base) T C_is_name
  have C_head_fault := fn_head_fault (P := P) (base := base) T C_names_fault
  have C_number_pairs := fn_number_pairs (P := P) (base := base) T
  have C_ways := fn_ways (P := P) (base := base) T
  have C_free_book := fn_free_book (P := P) (base := base) T C_head_fault C_number_pairs C_ways
  have C_law_same : Fd P w K mg base "_law_same" 0 ["actual", "due"] (sp_law_same 0) := (Fd.never T.d_law_same).imp (by decide) (fun _ _ _ _ q => (sp0_law_same q).elim)
  have C_law_same := fn_law_same (P := P) (base := base) T 0 0 (by decide) (by decide) C_law_same
  have C_law_same := fn_law_same (P := P) (base := base) T 1 1 (by decide) (by decide) C_law_same
  have C_law_same := fn_law_same (P := P) (base := base) T 2 2 (by decide) (by decide) C_law_same
  have C_law_same := fn_law_same (P := P) (base := base) T 3 3 (by decide) (by decide) C_law_same
  have C_law_same := fn_law_same (P := P) (base := base) T 4 4 (by decide) (by decide) C_law_same
  have C_law_spoilt_names := fn_law_spoilt_names (P := P) (base := base) T C_law_draw C_law_names
  have C_law_spoilt_lot := fn_law_spoilt_lot (P := P) (base := base) T C_law_ways C_law_draw
  have C_law_is_name := fn_law_is_name (P := P) (base := base) T
  have C_law_is_lot := fn_law_is_lot (P := P) (base := base) T C_law_ways
  have C_law_fault := fn_law_fault (P := P) (base := base) T C_law_is_name C_law_is_lot
  have C_is_way := fn_is_way (P := P) (base := base) T
  have C_has_doubles := fn_has_doubles (P := P) (base := base) T
  have C_place_of := fn_place_of (P := P) (base := base) T
  have C_ordered := fn_ordered (P := P) (base := base) T C_place_of
  have C_is_lot := fn_is_lot (P := P) (base := base) T C_is_way C_has_doubles C_ordered
  have C_book_fault := fn_book_fault (P := P) (base := base) T C_head_fault C_number_pairs C_is_lot
  have C_make_book := fn_make_book (P := P) (base := base) T C_book_fault
  have C_law_made := fn_law_made (P := P) (base := base) T C_make_book
  fn_law T F C_law_pool C_law_draw C_law_names C_law_drawn_lots C_law_ways C_free_book C_law_same C_law_spoilt_names C_law_spoilt_lot C_law_fault C_book_fault C_law_made
end
set_option maxHeartbeats 0 in
theorem all_mk {l : PySem.W.OpenLaw} {w : World} {K : PySem.W.Frag} {h : Heap} {mg : Str → Option Value} {fa : Addr} (X : K.In h) (G : h.Ns mainGlobals mg) (hfa : mg "law" = some (.ref fa))
    {t15 : Tok}
    {t17 : Tok}
    {t19 : Tok}
    {t21 : Tok}
    {a23 : Addr} {is24 : Array Value} {n25 : Nat} {sl26 : Array (Option Value)}
    {t29 : Tok}
    {t30 : Tok}
    {t31 : Tok}
    {t34 : Tok}
    {a36 : Addr} {is37 : Array Value} {n38 : Nat} {sl39 : Array (Option Value)}
    {t42 : Tok}
    {t43 : Tok}
    {t44 : Tok}
    {t45 : Tok}
    {t46 : Tok}
    {t47 : Tok}
    {t48 : Tok}
    {t49 : Tok}
    {t50 : Tok}
    {t51 : Tok}
    {t52 : Tok}
    {t53 : Tok}
    {t54 : Tok}
    {t55 : Tok}
    {t56 : Tok}
    {t57 : Tok}
    {f59 : Addr} {od60 an61 : Option Addr} {sl62 : Array (Option Value)} {v63 v64 v65 v66 v67 v68 : Value}
    {f73 : Addr} {od74 an75 : Option Addr} {sl76 : Array (Option Value)} {v77 v78 v79 v80 v81 v82 : Value}
    {f87 : Addr} {od88 an89 : Option Addr} {sl90 : Array (Option Value)} {v91 v92 v93 v94 v95 v96 : Value}
    {f101 : Addr} {od102 an103 : Option Addr} {sl104 : Array (Option Value)} {v105 v106 v107 v108 v109 v110 : Value}
    {f115 : Addr} {od116 an117 : Option Addr} {sl118 : Array (Option Value)} {v119 v120 v121 v122 v123 v124 : Value}
    {f129 : Addr} {od130 an131 : Option Addr} {sl132 : Array (Option Value)} {v133 v134 v135 v136 v137 v138 : Value}
    {f143 : Addr} {od144 an145 : Option Addr} {sl146 : Array (Option Value)} {v147 v148 v149 v150 v151 v152 : Value}
    {f157 : Addr} {od158 an159 : Option Addr} {sl160 : Array (Option Value)} {v161 v162 v163 v164 v165 v166 : Value}
    {f171 : Addr} {od172 an173 : Option Addr} {sl174 : Array (Option Value)} {v175 v176 v177 v178 v179 v180 : Value}
    {f185 : Addr} {od186 an187 : Option Addr} {sl188 : Array (Option Value)} {v189 v190 v191 v192 v193 v194 : Value}
    {f199 : Addr} {od200 an201 : Option Addr} {sl202 : Array (Option Value)} {v203 v204 v205 v206 v207 v208 : Value}
    {f213 : Addr} {od214 an215 : Option Addr} {sl216 : Array (Option Value)} {v217 v218 v219 v220 v221 v222 : Value}
    {f227 : Addr} {od228 an229 : Option Addr} {sl230 : Array (Option Value)} {v231 v232 v233 v234 v235 v236 : Value}
    {f241 : Addr} {od242 an243 : Option Addr} {sl244 : Array (Option Value)} {v245 v246 v247 v248 v249 v250 : Value}
    {f255 : Addr} {od256 an257 : Option Addr} {sl258 : Array (Option Value)} {v259 v260 v261 v262 v263 v264 : Value}
    {f269 : Addr} {od270 an271 : Option Addr} {sl272 : Array (Option Value)} {v273 v274 v275 v276 v277 v278 : Value}
    {f283 : Addr} {od284 an285 : Option Addr} {sl286 : Array (Option Value)} {v287 v288 v289 v290 v291 v292 : Value}
    {f297 : Addr} {od298 an299 : Option Addr} {sl300 : Array (Option Value)} {v301 v302 v303 v304 v305 v306 : Value}
    {f311 : Addr} {od312 an313 : Option Addr} {sl314 : Array (Option Value)} {v315 v316 v317 v318 v319 v320 : Value}
    {f325 : Addr} {od326 an327 : Option Addr} {sl328 : Array (Option Value)} {v329 v330 v331 v332 v333 v334 : Value}
    {f339 : Addr} {od340 an341 : Option Addr} {sl342 : Array (Option Value)} {v343 v344 v345 v346 v347 v348 : Value}
    {f353 : Addr} {od354 an355 : Option Addr} {sl356 : Array (Option Value)} {v357 v358 v359 v360 v361 v362 : Value}
    {f367 : Addr} {od368 an369 : Option Addr} {sl370 : Array (Option Value)} {v371 v372 v373 v374 v375 v376 : Value}
    {f381 : Addr} {od382 an383 : Option Addr} {sl384 : Array (Option Value)} {v385 v386 v387 v388 v389 v390 : Value}
    {f395 : Addr} {od396 an397 : Option Addr} {sl398 : Array (Option Value)} {v399 v400 v401 v402 v403 v404 : Value}
    {f409 : Addr} {od410 an411 : Option Addr} {sl412 : Array (Option Value)} {v413 v414 v415 v416 v417 v418 : Value}
    {f423 : Addr} {od424 an425 : Option Addr} {sl426 : Array (Option Value)} {v427 v428 v429 v430 v431 v432 : Value}
    {f437 : Addr} {od438 an439 : Option Addr} {sl440 : Array (Option Value)} {v441 v442 v443 v444 v445 v446 : Value}
    (z1 : PySem.W.nsIn K mainGlobals "int" = some none)
    (z2 : PySem.W.nsIn K mainGlobals "len" = some none)
    (z3 : PySem.W.nsIn K mainGlobals "range" = some none)
    (z4 : PySem.W.nsIn K mainGlobals "tuple" = some none)
    (z5 : PySem.W.nsIn K mainGlobals "list" = some none)
    (z6 : PySem.W.nsIn K mainGlobals "isinstance" = some none)
    (z7 : PySem.W.nsIn K mainGlobals "bool" = some none)
    (z8 : PySem.W.nsIn K mainGlobals "str" = some none)
    (z9 : PySem.W.nsIn K mainGlobals "sorted" = some none)
    (x10 : ExD l.prog K mg "UnknownKind" ["kind"])
    (x11 : ExD l.prog K mg "BadFault" ["fault"])
    (x12 : ErT K mg (tabOf erL) erOwn erFt (erL.map (·.1)))
    (c14 : PySem.W.nsIn K mainGlobals "MOST_SIGNS" = some (some (.int 6 t15)))
    (c16 : PySem.W.nsIn K mainGlobals "LETTERS" = some (some (.str "abcdefghijklmnopqrstuvwxyz" t17)))
    (c18 : PySem.W.nsIn K mainGlobals "FIGURES" = some (some (.str "0123456789" t19)))
    (c20 : PySem.W.nsIn K mainGlobals "MOST_BOOK_NAMES" = some (some (.int 6 t21)))
    (c22 : PySem.W.nsIn K mainGlobals "KINDS" = some (some (.ref a23)))
    (l27 : K.lookup a23 = some ⟨.type "tuple", none, .seq is24 n25, sl26⟩)
    (s28 : is24.size ≤ sizeLine)
    (e32 : is24.toList = [(.str "line" t29), (.str "ring" t30), (.str "box" t31)])
    (c33 : PySem.W.nsIn K mainGlobals "LINE" = some (some (.str "amoEWBsbweOMA" t34)))
    (c35 : PySem.W.nsIn K mainGlobals "RING" = some (some (.ref a36)))
    (l40 : K.lookup a36 = some ⟨.type "tuple", none, .seq is37 n38, sl39⟩)
    (s41 : is37.size ≤ sizeLine)
    (e58 : is37.toList = [(.str "bi" t42), (.str "be" t43), (.str "bo" t44), (.str "ib" t45), (.str "ii" t46), (.str "II" t47), (.str "ie" t48), (.str "io" t49), (.str "eb" t50), (.str "ei" t51), (.str "eo" t52), (.str "ob" t53), (.str "oi" t54), (.str "oe" t55), (.str "oo" t56), (.str "OO" t57)])
    (h69 : PySem.W.nsIn K mainGlobals "_law_pool" = some (some (.ref f59)))
    (l70 : K.lookup f59 = some ⟨v63, od60, .func (PySem.W.fnOf "_law_pool" "_law_pool" (defArgs s_law_pool) (defBody s_law_pool) (defScope s_law_pool) .none v64 v65 v66 an61 v67 v68), sl62⟩)
    (c71 : PySem.W.codeIn K v67 "_law_pool" = true)
    (k72 : PySem.W.keepIn K (.ref f59) = true)
    (h83 : PySem.W.nsIn K mainGlobals "_law_draw" = some (some (.ref f73)))
    (l84 : K.lookup f73 = some ⟨v77, od74, .func (PySem.W.fnOf "_law_draw" "_law_draw" (defArgs s_law_draw) (defBody s_law_draw) (defScope s_law_draw) .none v78 v79 v80 an75 v81 v82), sl76⟩)
    (c85 : PySem.W.codeIn K v81 "_law_draw" = true)
    (k86 : PySem.W.keepIn K (.ref f73) = true)
    (h97 : PySem.W.nsIn K mainGlobals "_law_names" = some (some (.ref f87)))
    (l98 : K.lookup f87 = some ⟨v91, od88, .func (PySem.W.fnOf "_law_names" "_law_names" (defArgs s_law_names) (defBody s_law_names) (defScope s_law_names) .none v92 v93 v94 an89 v95 v96), sl90⟩)
    (c99 : PySem.W.codeIn K v95 "_law_names" = true)
    (k100 : PySem.W.keepIn K (.ref f87) = true)
    (h111 : PySem.W.nsIn K mainGlobals "_law_ways" = some (some (.ref f101)))
    (l112 : K.lookup f101 = some ⟨v105, od102, .func (PySem.W.fnOf "_law_ways" "_law_ways" (defArgs s_law_ways) (defBody s_law_ways) (defScope s_law_ways) .none v106 v107 v108 an103 v109 v110), sl104⟩)
    (c113 : PySem.W.codeIn K v109 "_law_ways" = true)
    (k114 : PySem.W.keepIn K (.ref f101) = true)
    (h125 : PySem.W.nsIn K mainGlobals "_law_lot" = some (some (.ref f115)))
    (l126 : K.lookup f115 = some ⟨v119, od116, .func (PySem.W.fnOf "_law_lot" "_law_lot" (defArgs s_law_lot) (defBody s_law_lot) (defScope s_law_lot) .none v120 v121 v122 an117 v123 v124), sl118⟩)
    (c127 : PySem.W.codeIn K v123 "_law_lot" = true)
    (k128 : PySem.W.keepIn K (.ref f115) = true)
    (h139 : PySem.W.nsIn K mainGlobals "_law_drawn_lot" = some (some (.ref f129)))
    (l140 : K.lookup f129 = some ⟨v133, od130, .func (PySem.W.fnOf "_law_drawn_lot" "_law_drawn_lot" (defArgs s_law_drawn_lot) (defBody s_law_drawn_lot) (defScope s_law_drawn_lot) .none v134 v135 v136 an131 v137 v138), sl132⟩)
    (c141 : PySem.W.codeIn K v137 "_law_drawn_lot" = true)
    (k142 : PySem.W.keepIn K (.ref f129) = true)
    (h153 : PySem.W.nsIn K mainGlobals "_law_drawn_lots" = some (some (.ref f143)))
    (l154 : K.lookup f143 = some ⟨v147, od144, .func (PySem.W.fnOf "_law_drawn_lots" "_law_drawn_lots" (defArgs s_law_drawn_lots) (defBody s_law_drawn_lots) (defScope s_law_drawn_lots) .none v148 v149 v150 an145 v151 v152), sl146⟩)
    (c155 : PySem.W.codeIn K v151 "_law_drawn_lots" = true)
    (k156 : PySem.W.keepIn K (.ref f143) = true)
    (h167 : PySem.W.nsIn K mainGlobals "is_name" = some (some (.ref f157)))
    (l168 : K.lookup f157 = some ⟨v161, od158, .func (PySem.W.fnOf "is_name" "is_name" (defArgs s_is_name) (defBody s_is_name) (defScope s_is_name) .none v162 v163 v164 an159 v165 v166), sl160⟩)
    (c169 : PySem.W.codeIn K v165 "is_name" = true)
    (k170 : PySem.W.keepIn K (.ref f157) = true)
    (h181 : PySem.W.nsIn K mainGlobals "names_fault" = some (some (.ref f171)))
    (l182 : K.lookup f171 = some ⟨v175, od172, .func (PySem.W.fnOf "names_fault" "names_fault" (defArgs s_names_fault) (defBody s_names_fault) (defScope s_names_fault) .none v176 v177 v178 an173 v179 v180), sl174⟩)
    (c183 : PySem.W.codeIn K v179 "names_fault" = true)
    (k184 : PySem.W.keepIn K (.ref f171) = true)
    (h195 : PySem.W.nsIn K mainGlobals "head_fault" = some (some (.ref f185)))
    (l196 : K.lookup f185 = some ⟨v189, od186, .func (PySem.W.fnOf "head_fault" "head_fault" (defArgs s_head_fault) (defBody s_head_fault) (defScope s_head_fault) .none v190 v191 v192 an187 v193 v194), sl188⟩)
    (c197 : PySem.W.codeIn K v193 "head_fault" = true)
    (k198 : PySem.W.keepIn K (.ref f185) = true)
    (h209 : PySem.W.nsIn K mainGlobals "number_pairs" = some (some (.ref f199)))
    (l210 : K.lookup f199 = some ⟨v203, od200, .func (PySem.W.fnOf "number_pairs" "number_pairs" (defArgs s_number_pairs) (defBody s_number_pairs) (defScope s_number_pairs) .none v204 v205 v206 an201 v207 v208), sl202⟩)
    (c211 : PySem.W.codeIn K v207 "number_pairs" = true)
    (k212 : PySem.W.keepIn K (.ref f199) = true)
    (h223 : PySem.W.nsIn K mainGlobals "ways" = some (some (.ref f213)))
    (l224 : K.lookup f213 = some ⟨v217, od214, .func (PySem.W.fnOf "ways" "ways" (defArgs s_ways) (defBody s_ways) (defScope s_ways) .none v218 v219 v220 an215 v221 v222), sl216⟩)
    (c225 : PySem.W.codeIn K v221 "ways" = true)
    (k226 : PySem.W.keepIn K (.ref f213) = true)
    (h237 : PySem.W.nsIn K mainGlobals "free_book" = some (some (.ref f227)))
    (l238 : K.lookup f227 = some ⟨v231, od228, .func (PySem.W.fnOf "free_book" "free_book" (defArgs s_free_book) (defBody s_free_book) (defScope s_free_book) .none v232 v233 v234 an229 v235 v236), sl230⟩)
    (c239 : PySem.W.codeIn K v235 "free_book" = true)
    (k240 : PySem.W.keepIn K (.ref f227) = true)
    (h251 : PySem.W.nsIn K mainGlobals "_law_same" = some (some (.ref f241)))
    (l252 : K.lookup f241 = some ⟨v245, od242, .func (PySem.W.fnOf "_law_same" "_law_same" (defArgs s_law_same) (defBody s_law_same) (defScope s_law_same) .none v246 v247 v248 an243 v249 v250), sl244⟩)
    (c253 : PySem.W.codeIn K v249 "_law_same" = true)
    (k254 : PySem.W.keepIn K (.ref f241) = true)
    (h265 : PySem.W.nsIn K mainGlobals "_law_spoilt_names" = some (some (.ref f255)))
    (l266 : K.lookup f255 = some ⟨v259, od256, .func (PySem.W.fnOf "_law_spoilt_names" "_law_spoilt_names" (defArgs s_law_spoilt_names) (defBody s_law_spoilt_names) (defScope s_law_spoilt_names) .none v260 v261 v262 an257 v263 v264), sl258⟩)
    (c267 : PySem.W.codeIn K v263 "_law_spoilt_names" = true)
    (k268 : PySem.W.keepIn K (.ref f255) = true)
    (h279 : PySem.W.nsIn K mainGlobals "_law_spoilt_lot" = some (some (.ref f269)))
    (l280 : K.lookup f269 = some ⟨v273, od270, .func (PySem.W.fnOf "_law_spoilt_lot" "_law_spoilt_lot" (defArgs s_law_spoilt_lot) (defBody s_law_spoilt_lot) (defScope s_law_spoilt_lot) .none v274 v275 v276 an271 v277 v278), sl272⟩)
    (c281 : PySem.W.codeIn K v277 "_law_spoilt_lot" = true)
    (k282 : PySem.W.keepIn K (.ref f269) = true)
    (h293 : PySem.W.nsIn K mainGlobals "_law_is_name" = some (some (.ref f283)))
    (l294 : K.lookup f283 = some ⟨v287, od284, .func (PySem.W.fnOf "_law_is_name" "_law_is_name" (defArgs s_law_is_name) (defBody s_law_is_name) (defScope s_law_is_name) .none v288 v289 v290 an285 v291 v292), sl286⟩)
    (c295 : PySem.W.codeIn K v291 "_law_is_name" = true)
    (k296 : PySem.W.keepIn K (.ref f283) = true)
    (h307 : PySem.W.nsIn K mainGlobals "_law_is_lot" = some (some (.ref f297)))
    (l308 : K.lookup f297 = some ⟨v301, od298, .func (PySem.W.fnOf "_law_is_lot" "_law_is_lot" (defArgs s_law_is_lot) (defBody s_law_is_lot) (defScope s_law_is_lot) .none v302 v303 v304 an299 v305 v306), sl300⟩)
    (c309 : PySem.W.codeIn K v305 "_law_is_lot" = true)
    (k310 : PySem.W.keepIn K (.ref f297) = true)
    (h321 : PySem.W.nsIn K mainGlobals "_law_fault" = some (some (.ref f311)))
    (l322 : K.lookup f311 = some ⟨v315, od312, .func (PySem.W.fnOf "_law_fault" "_law_fault" (defArgs s_law_fault) (defBody s_law_fault) (defScope s_law_fault) .none v316 v317 v318 an313 v319 v320), sl314⟩)
    (c323 : PySem.W.codeIn K v319 "_law_fault" = true)
    (k324 : PySem.W.keepIn K (.ref f311) = true)
    (h335 : PySem.W.nsIn K mainGlobals "is_way" = some (some (.ref f325)))
    (l336 : K.lookup f325 = some ⟨v329, od326, .func (PySem.W.fnOf "is_way" "is_way" (defArgs s_is_way) (defBody s_is_way) (defScope s_is_way) .none v330 v331 v332 an327 v333 v334), sl328⟩)
    (c337 : PySem.W.codeIn K v333 "is_way" = true)
    (k338 : PySem.W.keepIn K (.ref f325) = true)
    (h349 : PySem.W.nsIn K mainGlobals "has_doubles" = some (some (.ref f339)))
    (l350 : K.lookup f339 = some ⟨v343, od340, .func (PySem.W.fnOf "has_doubles" "has_doubles" (defArgs s_has_doubles) (defBody s_has_doubles) (defScope s_has_doubles) .none v344 v345 v346 an341 v347 v348), sl342⟩)
    (c351 : PySem.W.codeIn K v347 "has_doubles" = true)
    (k352 : PySem.W.keepIn K (.ref f339) = true)
    (h363 : PySem.W.nsIn K mainGlobals "place_of" = some (some (.ref f353)))
    (l364 : K.lookup f353 = some ⟨v357, od354, .func (PySem.W.fnOf "place_of" "place_of" (defArgs s_place_of) (defBody s_place_of) (defScope s_place_of) .none v358 v359 v360 an355 v361 v362), sl356⟩)
    (c365 : PySem.W.codeIn K v361 "place_of" = true)
    (k366 : PySem.W.keepIn K (.ref f353) = true)
    (h377 : PySem.W.nsIn K mainGlobals "ordered" = some (some (.ref f367)))
    (l378 : K.lookup f367 = some ⟨v371, od368, .func (PySem.W.fnOf "ordered" "ordered" (defArgs s_ordered) (defBody s_ordered) (defScope s_ordered) .none v372 v373 v374 an369 v375 v376), sl370⟩)
    (c379 : PySem.W.codeIn K v375 "ordered" = true)
    (k380 : PySem.W.keepIn K (.ref f367) = true)
    (h391 : PySem.W.nsIn K mainGlobals "is_lot" = some (some (.ref f381)))
    (l392 : K.lookup f381 = some ⟨v385, od382, .func (PySem.W.fnOf "is_lot" "is_lot" (defArgs s_is_lot) (defBody s_is_lot) (defScope s_is_lot) .none v386 v387 v388 an383 v389 v390), sl384⟩)
    (c393 : PySem.W.codeIn K v389 "is_lot" = true)
    (k394 : PySem.W.keepIn K (.ref f381) = true)
    (h405 : PySem.W.nsIn K mainGlobals "book_fault" = some (some (.ref f395)))
    (l406 : K.lookup f395 = some ⟨v399, od396, .func (PySem.W.fnOf "book_fault" "book_fault" (defArgs s_book_fault) (defBody s_book_fault) (defScope s_book_fault) .none v400 v401 v402 an397 v403 v404), sl398⟩)
    (c407 : PySem.W.codeIn K v403 "book_fault" = true)
    (k408 : PySem.W.keepIn K (.ref f395) = true)
    (h419 : PySem.W.nsIn K mainGlobals "make_book" = some (some (.ref f409)))
    (l420 : K.lookup f409 = some ⟨v413, od410, .func (PySem.W.fnOf "make_book" "make_book" (defArgs s_make_book) (defBody s_make_book) (defScope s_make_book) .none v414 v415 v416 an411 v417 v418), sl412⟩)
    (c421 : PySem.W.codeIn K v417 "make_book" = true)
    (k422 : PySem.W.keepIn K (.ref f409) = true)
    (h433 : PySem.W.nsIn K mainGlobals "_law_made" = some (some (.ref f423)))
    (l434 : K.lookup f423 = some ⟨v427, od424, .func (PySem.W.fnOf "_law_made" "_law_made" (defArgs s_law_made) (defBody s_law_made) (defScope s_law_made) .none v428 v429 v430 an425 v431 v432), sl426⟩)
    (c435 : PySem.W.codeIn K v431 "_law_made" = true)
    (k436 : PySem.W.keepIn K (.ref f423) = true)
    (h447 : PySem.W.nsIn K mainGlobals "law" = some (some (.ref f437)))
    (l448 : K.lookup f437 = some ⟨v441, od438, .func (PySem.W.fnOf "law" "law" (defArgs s_law) (defBody s_law) (defScope s_law) .none v442 v443 v444 an439 v445 v446), sl440⟩)
    (c449 : PySem.W.codeIn K v445 "law" = true)
    (k450 : PySem.W.keepIn K (.ref f437) = true)
    : ∃ fd : FuncData, (∀ (s : Shared) (u : Value), BindsTo s fd ⟨[u], []⟩ [("script", u)]) ∧ ∀ base : Heap, K.In base → base.Ns mainGlobals mg → FnOk l.prog w K mg base (L2.CX l.prog w) 7 fa fd ["script"] (lawSpV K) :=
  have T : Txt l.prog K mg w := ⟨n_mk X G z1,
    n_mk X G z2,
    n_mk X G z3,
    n_mk X G z4,
    n_mk X G z5,
    n_mk X G z6,
    n_mk X G z7,
    n_mk X G z8,
    n_mk X G z9,
    x10,
    x11,
    x12,
    ktp_mk X G c35 l40 (uv_tup l40 s41 (by rw [e58]; exact (.cons uv_str (.cons uv_str (.cons uv_str (.cons uv_str (.cons uv_str (.cons uv_str (.cons uv_str (.cons uv_str (.cons uv_str (.cons uv_str (.cons uv_str (.cons uv_str (.cons uv_str (.cons uv_str (.cons uv_str (.cons uv_str .nil)))))))))))))))))),
    kc_mk X G c14 uv_int,
    kc_mk X G c16 uv_str,
    kc_mk X G c18 uv_str,
    kc_mk X G c20 uv_int,
    kc_mk X G c22 (uv_tup l27 s28 (by rw [e32]; exact (.cons uv_str (.cons uv_str (.cons uv_str .nil))))),
    kc_mk X G c33 uv_str,
    kc_mk X G c35 (uv_tup l40 s41 (by rw [e58]; exact (.cons uv_str (.cons uv_str (.cons uv_str (.cons uv_str (.cons uv_str (.cons uv_str (.cons uv_str (.cons uv_str (.cons uv_str (.cons uv_str (.cons uv_str (.cons uv_str (.cons uv_str (.cons uv_str (.cons uv_str (.cons uv_str .nil)))))))))))))))))),
    df_mk (st := s_law_pool) X G h69 l70 c71 k72 (fun _ _ _ _ _ _ us hl => match us, hl with | [_], _ => rfl),
    df_mk (st := s_law_draw) X G h83 l84 c85 k86 (fun _ _ _ _ _ _ us hl => match us, hl with | [_, _], _ => rfl),
    df_mk (st := s_law_names) X G h97 l98 c99 k100 (fun _ _ _ _ _ _ us hl => match us, hl with | [_, _], _ => rfl),
    df_mk (st := s_law_ways) X G h111 l112 c113 k114 (fun _ _ _ _ _ _ us hl => match us, hl with | [_], _ => rfl),
    df_mk (st := s_law_lot) X G h125 l126 c127 k128 (fun _ _ _ _ _ _ us hl => match us, hl with | [_, _], _ => rfl),
    df_mk (st := s_law_drawn_lot) X G h139 l140 c141 k142 (fun _ _ _ _ _ _ us hl => match us, hl with | [_, _, _], _ => rfl),
    df_mk (st := s_law_drawn_lots) X G h153 l154 c155 k156 (fun _ _ _ _ _ _ us hl => match us, hl with | [_, _, _], _ => rfl),
    df_mk (st := s_is_name) X G h167 l168 c169 k170 (fun _ _ _ _ _ _ us hl => match us, hl with | [_], _ => rfl),
    df_mk (st := s_names_fault) X G h181 l182 c183 k184 (fun _ _ _ _ _ _ us hl => match us, hl with | [_], _ => rfl),
    df_mk (st := s_head_fault) X G h195 l196 c197 k198 (fun _ _ _ _ _ _ us hl => match us, hl with | [_, _], _ => rfl),
    df_mk (st := s_number_pairs) X G h209 l210 c211 k212 (fun _ _ _ _ _ _ us hl => match us, hl with | [_], _ => rfl),
    df_mk (st := s_ways) X G h223 l224 c225 k226 (fun _ _ _ _ _ _ us hl => match us, hl with | [_], _ => rfl),
    df_mk (st := s_free_book) X G h237 l238 c239 k240 (fun _ _ _ _ _ _ us hl => match us, hl with | [_, _], _ => rfl),
    df_mk (st := s_law_same) X G h251 l252 c253 k254 (fun _ _ _ _ _ _ us hl => match us, hl with | [_, _], _ => rfl),
    df_mk (st := s_law_spoilt_names) X G h265 l266 c267 k268 (fun _ _ _ _ _ _ us hl => match us, hl with | [_, _], _ => rfl),
    df_mk (st := s_law_spoilt_lot) X G h279 l280 c281 k282 (fun _ _ _ _ _ _ us hl => match us, hl with | [_, _, _], _ => rfl),
    df_mk (st := s_law_is_name) X G h293 l294 c295 k296 (fun _ _ _ _ _ _ us hl => match us, hl with | [_], _ => rfl),
    df_mk (st := s_law_is_lot) X G h307 l308 c309 k310 (fun _ _ _ _ _ _ us hl => match us, hl with | [_, _], _ => rfl),
    df_mk (st := s_law_fault) X G h321 l322 c323 k324 (fun _ _ _ _ _ _ us hl => match us, hl with | [_, _, _], _ => rfl),
    df_mk (st := s_is_way) X G h335 l336 c337 k338 (fun _ _ _ _ _ _ us hl => match us, hl with | [_, _], _ => rfl),
    df_mk (st := s_has_doubles) X G h349 l350 c351 k352 (fun _ _ _ _ _ _ us hl => match us, hl with | [_], _ => rfl),
    df_mk (st := s_place_of) X G h363 l364 c365 k366 (fun _ _ _ _ _ _ us hl => match us, hl with | [_, _], _ => rfl),
    df_mk (st := s_ordered) X G h377 l378 c379 k380 (fun _ _ _ _ _ _ us hl => match us, hl with | [_, _], _ => rfl),
    df_mk (st := s_is_lot) X G h391 l392 c393 k394 (fun _ _ _ _ _ _ us hl => match us, hl with | [_, _], _ => rfl),
    df_mk (st := s_book_fault) X G h405 l406 c407 k408 (fun _ _ _ _ _ _ us hl => match us, hl with | [_, _, _], _ => rfl),
    df_mk (st := s_make_book) X G h419 l420 c421 k422 (fun _ _ _ _ _ _ us hl => match us, hl with | [_, _, _], _ => rfl),
    df_mk (st := s_law_made) X G h433 l434 c435 k436 (fun _ _ _ _ _ _ us hl => match us, hl with | [_, _, _], _ => rfl)⟩
  law_fn (st := s_law) X G hfa h447 l448 c449 k450 (fun s v => .of_eq rfl) fun base hb F => all_fn T F
end Lk15
open PySem PySem.W PyProof.Rows in
set_option maxRecDepth 100000 in
set_option maxHeartbeats 0 in
theorem PySem.Challenge.cw_stretchways_k15_faults_of_books_holds : PySem.Challenge.rw_stretchways_k15_faults_of_books.Holds := by
  w_on; o_law; k_head; (case hw => w_witness2)
  k_fill
  refine DL.walkD (l := PySem.Challenge.rw_stretchways_k15_faults_of_books) (k := 7) rfl rfl ⟨rfl, by decide, by decide⟩ (fun w h Y => PySem.W.kIn_of Y) ?F
  case F =>
    intro w mg fa h KX G hmg
    refine' Lk15.all_mk KX G hmg ?z1 ?z2 ?z3 ?z4 ?z5 ?z6 ?z7 ?z8 ?z9 ?x10 ?x11 ?x12 ?c14 ?c16 ?c18 ?c20 ?c22 ?l27 ?s28 ?e32 ?c33 ?c35 ?l40 ?s41 ?e58 ?h69 ?l70 ?c71 ?k72 ?h83 ?l84 ?c85 ?k86 ?h97 ?l98 ?c99 ?k100 ?h111 ?l112 ?c113 ?k114 ?h125 ?l126 ?c127 ?k128 ?h139 ?l140 ?c141 ?k142 ?h153 ?l154 ?c155 ?k156 ?h167 ?l168 ?c169 ?k170 ?h181 ?l182 ?c183 ?k184 ?h195 ?l196 ?c197 ?k198 ?h209 ?l210 ?c211 ?k212 ?h223 ?l224 ?c225 ?k226 ?h237 ?l238 ?c239 ?k240 ?h251 ?l252 ?c253 ?k254 ?h265 ?l266 ?c267 ?k268 ?h279 ?l280 ?c281 ?k282 ?h293 ?l294 ?c295 ?k296 ?h307 ?l308 ?c309 ?k310 ?h321 ?l322 ?c323 ?k324 ?h335 ?l336 ?c337 ?k338 ?h349 ?l350 ?c351 ?k352 ?h363 ?l364 ?c365 ?k366 ?h377 ?l378 ?c379 ?k380 ?h391 ?l392 ?c393 ?k394 ?h405 ?l406 ?c407 ?k408 ?h419 ?l420 ?c421 ?k422 ?h433 ?l434 ?c435 ?k436 ?h447 ?l448 ?c449 ?k450
    (case z1 => k_is)
    (case z2 => k_is)
    (case z3 => k_is)
    (case z4 => k_is)
    (case z5 => k_is)
    (case z6 => k_is)
    (case z7 => k_is)
    (case z8 => k_is)
    (case z9 => k_is)
    (case x10 => (refine' DL.exd1_mk KX G ?xa_UnknownKind ?xl_UnknownKind ?xo_UnknownKind ?xn_UnknownKind ?sa_UnknownKind ?xb_UnknownKind ?xt_UnknownKind ?xk_UnknownKind ?xv_UnknownKind ?xm_UnknownKind ?ii_UnknownKind ?ti_UnknownKind ?lf_UnknownKind ?cd_UnknownKind ?sb_UnknownKind ?gl_UnknownKind ?cl_UnknownKind ?kc_UnknownKind ?ce_UnknownKind ?ke_UnknownKind ?kv_UnknownKind ?pf_UnknownKind ?pt_UnknownKind ?ar_UnknownKind ?ms_UnknownKind ?oq_UnknownKind ?no1_UnknownKind ?hbody_UnknownKind ?hb_UnknownKind ?db_UnknownKind ?hev_UnknownKind); (case xa_UnknownKind => k_is); (case xl_UnknownKind => k_is); (case xo_UnknownKind => k_is); (case xn_UnknownKind => k_is); (case sa_UnknownKind => k_is); (case xb_UnknownKind => k_is); (case xt_UnknownKind => k_is); (case xk_UnknownKind => k_is); (case xv_UnknownKind => k_is); (case xm_UnknownKind => k_is); (case ii_UnknownKind => k_is); (case ti_UnknownKind => k_is); (case lf_UnknownKind => k_is); (case hbody_UnknownKind => rfl); (case cd_UnknownKind => k_is); (case sb_UnknownKind => decide +kernel); (case gl_UnknownKind => exact ⟨rfl, rfl⟩); (case cl_UnknownKind => rfl); (case kc_UnknownKind => k_is); (case ce_UnknownKind => rfl); (case ke_UnknownKind => k_is); (case kv_UnknownKind => rfl); (case pf_UnknownKind => decide +kernel); (case pt_UnknownKind => decide +kernel); (case ar_UnknownKind => exact ⟨_, rfl, rfl⟩); (case ms_UnknownKind => k_is); (case oq_UnknownKind => k_is); (case no1_UnknownKind => k_is); (case hb_UnknownKind => exact fun us hl => match us, hl with | [_, _], _ => rfl); (case db_UnknownKind => decide); (case hev_UnknownKind => exact fun _ => rfl))
    (case x11 => (refine' DL.exd1_mk KX G ?xa_BadFault ?xl_BadFault ?xo_BadFault ?xn_BadFault ?sa_BadFault ?xb_BadFault ?xt_BadFault ?xk_BadFault ?xv_BadFault ?xm_BadFault ?ii_BadFault ?ti_BadFault ?lf_BadFault ?cd_BadFault ?sb_BadFault ?gl_BadFault ?cl_BadFault ?kc_BadFault ?ce_BadFault ?ke_BadFault ?kv_BadFault ?pf_BadFault ?pt_BadFault ?ar_BadFault ?ms_BadFault ?oq_BadFault ?no1_BadFault ?hbody_BadFault ?hb_BadFault ?db_BadFault ?hev_BadFault); (case xa_BadFault => k_is); (case xl_BadFault => k_is); (case xo_BadFault => k_is); (case xn_BadFault => k_is); (case sa_BadFault => k_is); (case xb_BadFault => k_is); (case xt_BadFault => k_is); (case xk_BadFault => k_is); (case xv_BadFault => k_is); (case xm_BadFault => k_is); (case ii_BadFault => k_is); (case ti_BadFault => k_is); (case lf_BadFault => k_is); (case hbody_BadFault => rfl); (case cd_BadFault => k_is); (case sb_BadFault => decide +kernel); (case gl_BadFault => exact ⟨rfl, rfl⟩); (case cl_BadFault => rfl); (case kc_BadFault => k_is); (case ce_BadFault => rfl); (case ke_BadFault => k_is); (case kv_BadFault => rfl); (case pf_BadFault => decide +kernel); (case pt_BadFault => decide +kernel); (case ar_BadFault => exact ⟨_, rfl, rfl⟩); (case ms_BadFault => k_is); (case oq_BadFault => k_is); (case no1_BadFault => k_is); (case hb_BadFault => exact fun us hl => match us, hl with | [_, _], _ => rfl); (case db_BadFault => decide); (case hev_BadFault => exact fun _ => rfl))
    (case x12 => (refine' DL.ert_mk (DL.owns_mk KX G ?qq1 ?qq2 ?qq3 ?qq4 ?qq5 ?qq6 ?qq7 ?qq8 ?qq9 ?qq10 (DL.owns_mk KX G ?qq11 ?qq12 ?qq13 ?qq14 ?qq15 ?qq16 ?qq17 ?qq18 ?qq19 ?qq20 .nil)) (DL.fts_mk KX G ?qq21 ?qq22 ?qq23 ?qq24 ?qq25 ?qq26 .nil) (DL.tabr_mk KX G ?qq27 ?qq28 ?qq29 ?qq30 ?qq31 (DL.col_mk KX G ?qq32 ?qq33 (DL.col_mk KX G ?qq34 ?qq35 .nil)) (DL.tabr_mk KX G ?qq36 ?qq37 ?qq38 ?qq39 ?qq40 (DL.col_mk KX G ?qq41 ?qq42 (DL.col_mk KX G ?qq43 ?qq44 .nil)) (DL.tabr_mk KX G ?qq45 ?qq46 ?qq47 ?qq48 ?qq49 (DL.col_mk KX G ?qq50 ?qq51 (DL.col_mk KX G ?qq52 ?qq53 .nil)) (DL.tabr_mk KX G ?qq54 ?qq55 ?qq56 ?qq57 ?qq58 (DL.col_mk KX G ?qq59 ?qq60 (DL.col_mk KX G ?qq61 ?qq62 .nil)) (DL.tabr_mk KX G ?qq63 ?qq64 ?qq65 ?qq66 ?qq67 (DL.col_mk KX G ?qq68 ?qq69 (DL.col_mk KX G ?qq70 ?qq71 .nil)) (DL.tabr_mk KX G ?qq72 ?qq73 ?qq74 ?qq75 ?qq76 (DL.col_mk KX G ?qq77 ?qq78 (DL.col_mk KX G ?qq79 ?qq80 .nil)) (DL.tabt_mk (T := "ValueError") KX G ?qq81 ?qq82 ?qq83 ?qq84 (DL.col_mk KX G ?qq85 ?qq86 (DL.col_mk KX G ?qq87 ?qq88 .nil)) .nil)))))))); (case qq1 => k_is); (case qq2 => k_is); (case qq3 => k_is); (case qq4 => k_is); (case qq5 => k_is); (case qq6 => k_is); (case qq7 => k_is); (case qq8 => k_is); (case qq9 => k_is); (case qq10 => k_is); (case qq11 => k_is); (case qq12 => k_is); (case qq13 => k_is); (case qq14 => k_is); (case qq15 => k_is); (case qq16 => k_is); (case qq17 => k_is); (case qq18 => k_is); (case qq19 => k_is); (case qq20 => k_is); (case qq21 => k_is); (case qq22 => k_is); (case qq23 => k_is); (case qq24 => k_is); (case qq25 => k_is); (case qq26 => k_is); (case qq27 => k_is); (case qq28 => k_is); (case qq29 => k_is); (case qq30 => k_is); (case qq31 => k_is); (case qq32 => k_is); (case qq33 => k_is); (case qq34 => k_is); (case qq35 => k_is); (case qq36 => k_is); (case qq37 => k_is); (case qq38 => k_is); (case qq39 => k_is); (case qq40 => k_is); (case qq41 => k_is); (case qq42 => k_is); (case qq43 => k_is); (case qq44 => k_is); (case qq45 => k_is); (case qq46 => k_is); (case qq47 => k_is); (case qq48 => k_is); (case qq49 => k_is); (case qq50 => k_is); (case qq51 => k_is); (case qq52 => k_is); (case qq53 => k_is); (case qq54 => k_is); (case qq55 => k_is); (case qq56 => k_is); (case qq57 => k_is); (case qq58 => k_is); (case qq59 => k_is); (case qq60 => k_is); (case qq61 => k_is); (case qq62 => k_is); (case qq63 => k_is); (case qq64 => k_is); (case qq65 => k_is); (case qq66 => k_is); (case qq67 => k_is); (case qq68 => k_is); (case qq69 => k_is); (case qq70 => k_is); (case qq71 => k_is); (case qq72 => k_is); (case qq73 => k_is); (case qq74 => k_is); (case qq75 => k_is); (case qq76 => k_is); (case qq77 => k_is); (case qq78 => k_is); (case qq79 => k_is); (case qq80 => k_is); (case qq81 => k_is); (case qq82 => decide +kernel); (case qq83 => decide +kernel); (case qq84 => k_is); (case qq85 => k_is); (case qq86 => k_is); (case qq87 => k_is); (case qq88 => k_is))
    (case c14 => k_is)
    (case c16 => k_is)
    (case c18 => k_is)
    (case c20 => k_is)
    (case c22 => k_is)
    (case l27 => k_is)
    (case s28 => decide)
    (case e32 => rfl)
    (case c33 => k_is)
    (case c35 => k_is)
    (case l40 => k_is)
    (case s41 => decide)
    (case e58 => rfl)
    (case h69 => k_is)
    (case l70 => k_is)
    (case c71 => k_is)
    (case k72 => k_is)
    (case h83 => k_is)
    (case l84 => k_is)
    (case c85 => k_is)
    (case k86 => k_is)
    (case h97 => k_is)
    (case l98 => k_is)
    (case c99 => k_is)
    (case k100 => k_is)
    (case h111 => k_is)
    (case l112 => k_is)
    (case c113 => k_is)
    (case k114 => k_is)
    (case h125 => k_is)
    (case l126 => k_is)
    (case c127 => k_is)
    (case k128 => k_is)
    (case h139 => k_is)
    (case l140 => k_is)
    (case c141 => k_is)
    (case k142 => k_is)
    (case h153 => k_is)
    (case l154 => k_is)
    (case c155 => k_is)
    (case k156 => k_is)
    (case h167 => k_is)
    (case l168 => k_is)
    (case c169 => k_is)
    (case k170 => k_is)
    (case h181 => k_is)
    (case l182 => k_is)
    (case c183 => k_is)
    (case k184 => k_is)
    (case h195 => k_is)
    (case l196 => k_is)
    (case c197 => k_is)
    (case k198 => k_is)
    (case h209 => k_is)
    (case l210 => k_is)
    (case c211 => k_is)
    (case k212 => k_is)
    (case h223 => k_is)
    (case l224 => k_is)
    (case c225 => k_is)
    (case k226 => k_is)
    (case h237 => k_is)
    (case l238 => k_is)
    (case c239 => k_is)
    (case k240 => k_is)
    (case h251 => k_is)
    (case l252 => k_is)
    (case c253 => k_is)
    (case k254 => k_is)
    (case h265 => k_is)
    (case l266 => k_is)
    (case c267 => k_is)
    (case k268 => k_is)
    (case h279 => k_is)
    (case l280 => k_is)
    (case c281 => k_is)
    (case k282 => k_is)
    (case h293 => k_is)
    (case l294 => k_is)
    (case c295 => k_is)
    (case k296 => k_is)
    (case h307 => k_is)
    (case l308 => k_is)
    (case c309 => k_is)
    (case k310 => k_is)
    (case h321 => k_is)
    (case l322 => k_is)
    (case c323 => k_is)
    (case k324 => k_is)
    (case h335 => k_is)
    (case l336 => k_is)
    (case c337 => k_is)
    (case k338 => k_is)
    (case h349 => k_is)
    (case l350 => k_is)
    (case c351 => k_is)
    (case k352 => k_is)
    (case h363 => k_is)
    (case l364 => k_is)
    (case c365 => k_is)
    (case k366 => k_is)
    (case h377 => k_is)
    (case l378 => k_is)
    (case c379 => k_is)
    (case k380 => k_is)
    (case h391 => k_is)
    (case l392 => k_is)
    (case c393 => k_is)
    (case k394 => k_is)
    (case h405 => k_is)
    (case l406 => k_is)
    (case c407 => k_is)
    (case k408 => k_is)
    (case h419 => k_is)
    (case l420 => k_is)
    (case c421 => k_is)
    (case k422 => k_is)
    (case h433 => k_is)
    (case l434 => k_is)
    (case c435 => k_is)
    (case k436 => k_is)
    (case h447 => k_is)
    (case l448 => k_is)
    (case c449 => k_is)
    (case k450 => k_is)
#print axioms PySem.Challenge.cw_stretchways_k15_faults_of_books_holds

